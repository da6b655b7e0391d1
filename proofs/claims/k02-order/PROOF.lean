import PyProof.Rows.All
import Wide.All
import OpenK.AllK
import Wide.FinOn
import HandS.ForMost
import HandS.Walk
import HandS.Wide
import HandS.Flow
import HandS.IsInst
import HandS.TupMul
import HandS.TupAny
import HandS.Style
import HandS.Rev
import HandS.Conv
import HandS.Codes
import HandS.Deep
import HandS.TupLe
import HandS.StrMore
import KE.DataCmp
import HandS.WordsDict
import HandS.SortInts
import HandS.TupLen
import PyProof.Rows.StrMeet
import PyProof.ListStr
import PyProof.StrLawsIn
import HandS.Iter
import PyProof.AutoRange
import PyProof.ListRange
import KE.SortKeyHeap
import HandS.SortKw
import HandS.Exc
import HandS.RevTup
import PySem.Challenge.RW_lettercourt_k02_tuples_in_order
import HandS.Text
set_option Elab.async false
set_option linter.all false
set_option maxRecDepth 100000
set_option maxHeartbeats 4000000
/-! The mirror layer: plain values, environments, what a piece of code computes. -/
namespace MC
open PySem PySem.Spec L2

/-- a plain value -/
inductive PV where
  | non | bl (b : Bool) | int (i : Int) | str (x : Str) | tup (xs : List PV) | lst (xs : List PV)
  | dic (ks vs : List PV)
  | sq (l : Bool) (xs : List PV)

/-- readable there as here; a dict may have been locked -/
def Lk : HO → Prop
  | .dK _ => True
  | .dT _ => True
  | _ => False
def Bel (H H' : Hp) : Prop := ∀ a o, H a = some o → H' a = some o ∨ (Lk o ∧ ∃ ob, H' a = some (.frz ob o))
theorem Bel.rfl' {H : Hp} : Bel H H := fun _ _ h => .inl h
theorem Bel.trans {H H1 H2 : Hp} (a : Bel H H1) (b : Bel H1 H2) : Bel H H2 := fun c o h => by
  rcases a c o h with h1 | ⟨l, ob, h1⟩
  · exact b c o h1
  · rcases b c _ h1 with h2 | ⟨l2, _⟩
    · exact .inr ⟨l, ob, h2⟩
    · exact l2.elim
theorem Bel.some_ {H H' : Hp} (s : Bel H H') {a : Addr} (h : H a ≠ none) : H' a ≠ none := by
  cases q : H a with
  | none => exact absurd q h
  | some o => rcases s a o q with z | ⟨_, ob, z⟩ <;> rw [z] <;> simp
theorem Bel.rd {H H' : Hp} (s : Bel H H') {a : Addr} {u : HO} (h : Rd H a u) : Rd H' a u := by
  rcases h with h | ⟨o, h⟩
  · rcases s a _ h with z | ⟨_, ob, z⟩
    · exact .inl z
    · exact .inr ⟨ob, z⟩
  · rcases s a _ h with z | ⟨l, ob, z⟩
    · exact .inr ⟨o, z⟩
    · exact l.elim
theorem Bel.sqT {K : PySem.W.Frag} {H H' : Hp} (s : Bel H H') {a : Addr} {xs : List V} (h : SqT K H a xs) : SqT K H' a xs := by
  rcases h with h | h
  · exact .inl (s.rd h)
  · exact .inr h
theorem Bel.sqL {K : PySem.W.Frag} {H H' : Hp} (s : Bel H H') {a : Addr} {xs : List V} (h : SqL K H a xs) : SqL K H' a xs := by
  rcases h with h | h
  · exact .inl (s.rd h)
  · exact .inr h
theorem Bel.lst {H H' : Hp} (s : Bel H H') {a : Addr} {xs : List V} (h : H a = some (.lst xs)) : H' a = some (.lst xs) := by
  rcases s a _ h with z | ⟨l, _⟩
  · exact z
  · exact l.elim
theorem Bel.tup {H H' : Hp} (s : Bel H H') {a : Addr} {xs : List V} (h : H a = some (.tup xs)) : H' a = some (.tup xs) := by
  rcases s a _ h with z | ⟨l, _⟩
  · exact z
  · exact l.elim
theorem Bel.upd {H : Hp} {p : Addr} {o : HO} (h : H p = none) : Bel H (upd H p o) := fun a u e => .inl (by rw [upd_ne (ne_of_none e h)]; exact e)

/-- a key as a plain value -/
def kP : Key → PV
  | .inl i => .int i
  | .inr x => .str x

mutual
/-- v stands in H for the plain value -/
def Rep (K : PySem.W.Frag) (H : Hp) (v : V) : PV → Prop
  | .non => v = .non
  | .bl b => v = .bl b
  | .int i => v = .int i
  | .str x => v = .str x
  | .tup xs => ∃ a vs, v = .ref a ∧ H a = some (.tup vs) ∧ Reps K H vs xs
  | .lst xs => ∃ a vs, v = .ref a ∧ H a = some (.lst vs) ∧ Reps K H vs xs
  | .sq l xs => ∃ a vs, v = .ref a ∧ (if l = true then SqL K H a vs else SqT K H a vs) ∧ Reps K H vs xs
  | .dic ks xs => ∃ (a : Addr) (vs : List V), v = .ref a ∧ Reps K H vs xs ∧
      ((∃ kk : List Key, Rd H a (.dK (kk.zip vs)) ∧ kk.length = vs.length ∧ ks = kk.map kP) ∨
       (∃ kk : List (List Key), kk ≠ [] ∧ Rd H a (.dT (kk.zip vs)) ∧ kk.length = vs.length ∧ ks = kk.map fun l => .tup (l.map kP)))
def Reps (K : PySem.W.Frag) (H : Hp) (vs : List V) : List PV → Prop
  | [] => vs = []
  | x :: xs => ∃ v r, vs = v :: r ∧ Rep K H v x ∧ Reps K H r xs
end

section
variable {K : PySem.W.Frag} {H H' Hf Hf' : Hp}
mutual
theorem Rep.sub (s : Bel H H') : ∀ {x : PV} {v : V}, Rep K H v x → Rep K H' v x
  | .non, _, h => h
  | .bl _, _, h => h
  | .int _, _, h => h
  | .str _, _, h => h
  | .tup xs, v, h => by
    unfold Rep at h ⊢
    obtain ⟨a, vs, e, h1, h2⟩ := h
    exact ⟨a, vs, e, s.tup h1, Reps.sub s h2⟩
  | .lst xs, v, h => by
    unfold Rep at h ⊢
    obtain ⟨a, vs, e, h1, h2⟩ := h
    exact ⟨a, vs, e, s.lst h1, Reps.sub s h2⟩
  | .sq l xs, v, h => by
    unfold Rep at h ⊢
    obtain ⟨a, vs, e, h1, h2⟩ := h
    refine ⟨a, vs, e, ?_, Reps.sub s h2⟩
    cases l with
    | true => exact s.sqL h1
    | false => exact s.sqT h1
  | .dic ks xs, v, h => by
    unfold Rep at h ⊢
    obtain ⟨a, vs, e, h2, h3⟩ := h
    refine ⟨a, vs, e, Reps.sub s h2, ?_⟩
    rcases h3 with ⟨kk, r, l, e⟩ | ⟨kk, n, r, l, e⟩
    · exact .inl ⟨kk, s.rd r, l, e⟩
    · exact .inr ⟨kk, n, s.rd r, l, e⟩
theorem Reps.sub (s : Bel H H') : ∀ {xs : List PV} {vs : List V}, Reps K H vs xs → Reps K H' vs xs
  | [], _, h => h
  | x :: xs, vs, h => by
    unfold Reps at h ⊢
    obtain ⟨v, r, e, h1, h2⟩ := h
    exact ⟨v, r, e, Rep.sub s h1, Reps.sub s h2⟩
end
theorem Reps.nil : Reps K H [] [] := by unfold Reps; rfl
theorem Reps.cons {v : V} {vs : List V} {x : PV} {xs : List PV} (h : Rep K H v x) (t : Reps K H vs xs) : Reps K H (v :: vs) (x :: xs) := by
  unfold Reps; exact ⟨v, vs, rfl, h, t⟩
theorem Reps.nil_inv {vs : List V} (h : Reps K H vs []) : vs = [] := by unfold Reps at h; exact h
theorem Reps.cons_inv {vs : List V} {x : PV} {xs : List PV} (h : Reps K H vs (x :: xs)) : ∃ v r, vs = v :: r ∧ Rep K H v x ∧ Reps K H r xs := by
  unfold Reps at h; exact h
theorem Reps.length : ∀ {xs : List PV} {vs : List V}, Reps K H vs xs → vs.length = xs.length
  | [], vs, h => by rw [h.nil_inv]; rfl
  | x :: xs, vs, h => by
    obtain ⟨v, r, rfl, _, h2⟩ := h.cons_inv
    simp [Reps.length h2]
theorem Reps.append : ∀ {xs ys : List PV} {vs ws : List V}, Reps K H vs xs → Reps K H ws ys → Reps K H (vs ++ ws) (xs ++ ys)
  | [], _, _, _, h, g => by rw [h.nil_inv]; exact g
  | x :: xs, _, _, _, h, g => by
    obtain ⟨v, r, rfl, h1, h2⟩ := h.cons_inv
    exact .cons h1 (Reps.append h2 g)
theorem Reps.get : ∀ {xs : List PV} {vs : List V} {i : Nat} {x : PV}, Reps K H vs xs → xs[i]? = some x → ∃ v, vs[i]? = some v ∧ Rep K H v x
  | [], _, _, _, _, e => by simp at e
  | y :: ys, _, 0, x, h, e => by
    obtain ⟨v, r, rfl, h1, h2⟩ := h.cons_inv
    simp at e; subst e
    exact ⟨v, rfl, h1⟩
  | y :: ys, _, i + 1, x, h, e => by
    obtain ⟨v, r, rfl, h1, h2⟩ := h.cons_inv
    obtain ⟨w, e1, e2⟩ := Reps.get (i := i) h2 (by simpa using e)
    exact ⟨w, by simpa using e1, e2⟩
theorem Reps.get' : ∀ {xs : List PV} {vs : List V} {i : Nat} {v : V}, Reps K H vs xs → vs[i]? = some v → ∃ x, xs[i]? = some x ∧ Rep K H v x := fun {xs vs i v} h e => by
  have hl := h.length
  have hi : i < xs.length := by rw [← hl]; exact (List.getElem?_eq_some_iff.mp e).1
  obtain ⟨w, e1, e2⟩ := h.get (i := i) (x := xs[i]) (by simp [hi])
  rw [e] at e1; cases e1
  exact ⟨xs[i], by simp [hi], e2⟩
theorem Reps.set : ∀ {xs : List PV} {vs : List V} {v : V} {x : PV} (i : Nat), Reps K H vs xs → Rep K H v x → Reps K H (vs.set i v) (xs.set i x)
  | [], _, _, _, _, h, _ => by rw [h.nil_inv]; exact .nil
  | y :: ys, _, v, x, 0, h, g => by
    obtain ⟨w, r, rfl, h1, h2⟩ := h.cons_inv
    exact .cons g h2
  | y :: ys, _, v, x, i + 1, h, g => by
    obtain ⟨w, r, rfl, h1, h2⟩ := h.cons_inv
    exact .cons h1 (Reps.set i h2 g)
theorem Reps.eraseIdx : ∀ {xs : List PV} {vs : List V} (i : Nat), Reps K H vs xs → Reps K H (vs.eraseIdx i) (xs.eraseIdx i)
  | [], _, _, h => by rw [h.nil_inv]; exact .nil
  | y :: ys, _, 0, h => by
    obtain ⟨w, r, rfl, h1, h2⟩ := h.cons_inv
    exact h2
  | y :: ys, _, i + 1, h => by
    obtain ⟨w, r, rfl, h1, h2⟩ := h.cons_inv
    exact .cons h1 (Reps.eraseIdx i h2)
theorem Reps.take : ∀ {xs : List PV} {vs : List V} (n : Nat), Reps K H vs xs → Reps K H (vs.take n) (xs.take n)
  | _, _, 0, _ => by simp; exact .nil
  | [], _, _ + 1, h => by rw [h.nil_inv]; exact .nil
  | x :: xs, _, n + 1, h => by
    obtain ⟨w, r, rfl, h1, h2⟩ := h.cons_inv
    exact .cons h1 (Reps.take n h2)
theorem Reps.drop : ∀ {xs : List PV} {vs : List V} (n : Nat), Reps K H vs xs → Reps K H (vs.drop n) (xs.drop n)
  | _, _, 0, h => by simpa using h
  | [], _, _ + 1, h => by rw [h.nil_inv]; exact .nil
  | x :: xs, _, n + 1, h => by
    obtain ⟨w, r, rfl, h1, h2⟩ := h.cons_inv
    exact Reps.drop n h2
theorem Reps.reverse : ∀ {xs : List PV} {vs : List V}, Reps K H vs xs → Reps K H vs.reverse xs.reverse
  | [], _, h => by rw [h.nil_inv]; exact .nil
  | x :: xs, _, h => by
    obtain ⟨w, r, rfl, h1, h2⟩ := h.cons_inv
    simp only [List.reverse_cons]
    exact (Reps.reverse h2).append (.cons h1 .nil)
theorem Reps.rep {xs : List PV} {vs : List V} (h : Reps K H vs xs) : ∀ n : Nat, Reps K H (List.replicate n vs).flatten (List.replicate n xs).flatten
  | 0 => .nil
  | n + 1 => by simp only [List.replicate_succ, List.flatten_cons]; exact h.append (Reps.rep h n)
theorem Reps.ints : ∀ (ns : List Int), Reps K H (ns.map V.int) (ns.map PV.int)
  | [] => .nil
  | n :: ns => .cons (by unfold Rep; rfl) (Reps.ints ns)
end

/-- a flat value holds no object -/
def PV.flat : PV → Bool
  | .non => true
  | .bl _ => true
  | .int _ => true
  | .str _ => true
  | _ => false
theorem Rep.flat {K : PySem.W.Frag} {H H' : Hp} {x : PV} {v : V} (f : x.flat = true) (h : Rep K H v x) : Rep K H' v x := by
  cases x with
  | non => exact h
  | bl _ => exact h
  | int _ => exact h
  | str _ => exact h
  | tup _ => cases f
  | lst _ => cases f
  | dic _ _ => cases f
  | sq _ _ => cases f

/-- an object that is readable in H, its parts standing in Hf -/
def Cell (K : PySem.W.Frag) (Hf : Hp) (o : HO) : PV → Prop
  | .lst xs => ∃ vs, o = .lst vs ∧ Reps K Hf vs xs
  | .dic ks xs => ∃ vs, Reps K Hf vs xs ∧
      ((∃ kk : List Key, o = .dK (kk.zip vs) ∧ kk.length = vs.length ∧ ks = kk.map kP) ∨
       (∃ kk : List (List Key), kk ≠ [] ∧ o = .dT (kk.zip vs) ∧ kk.length = vs.length ∧ ks = kk.map fun l => .tup (l.map kP)))
  | _ => False
theorem Cell.sub {K : PySem.W.Frag} {H H' : Hp} {o : HO} {x : PV} (s : Bel H H') (h : Cell K H o x) : Cell K H' o x := by
  cases x with
  | lst xs => obtain ⟨vs, e, r⟩ := h; exact ⟨vs, e, r.sub s⟩
  | dic ks xs => obtain ⟨vs, r, e⟩ := h; exact ⟨vs, r.sub s, e⟩
  | _ => exact h
theorem Cell.mut {K : PySem.W.Frag} {H : Hp} {o : HO} {x : PV} (h : Cell K H o x) : Mut (some o) := by
  cases x with
  | lst xs => obtain ⟨vs, e, r⟩ := h; subst e; trivial
  | dic ks xs =>
    obtain ⟨vs, r, ⟨kk, e, _⟩ | ⟨kk, _, e, _⟩⟩ := h
    · subst e; trivial
    · subst e; trivial
  | _ => exact h.elim
/-- once its own object is known to Hf too, the cell is a plain value there -/
theorem Cell.rep {K : PySem.W.Frag} {H : Hp} {o : HO} {x : PV} {p : Addr} (h : Cell K H o x) (e : H p = some o) : Rep K H (.ref p) x := by
  cases x with
  | lst xs => obtain ⟨vs, e', r⟩ := h; subst e'; unfold Rep; exact ⟨p, vs, rfl, e, r⟩
  | dic ks xs =>
    obtain ⟨vs, r, ⟨kk, e', h1, h2⟩ | ⟨kk, n, e', h1, h2⟩⟩ := h
    · subst e'; unfold Rep; exact ⟨p, vs, rfl, r, .inl ⟨kk, .inl e, h1, h2⟩⟩
    · subst e'; unfold Rep; exact ⟨p, vs, rfl, r, .inr ⟨kk, n, .inl e, h1, h2⟩⟩
  | _ => exact h.elim

/-! ### the environment: for each slot whether its object is its own, and its value -/
abbrev Env := List (Option (Bool × PV))
def Own (ρ : Env) (σ : St) (b : Addr) : Prop := ∃ (i : Nat) (v : PV), ρ[i]? = some (some (true, v)) ∧ σ[i]? = some (some (.ref b))
structure R (K : PySem.W.Frag) (ρ : Env) (Hf : Hp) (σ : St) (H : Hp) : Prop where
  sub : Bel Hf H
  vars : ∀ (i : Nat) (o : Bool) (v : PV), ρ[i]? = some (some (o, v)) → ∃ v', σ[i]? = some (some v') ∧ (o = false → Rep K Hf v' v) ∧
    (o = true → ∃ p ob, v' = .ref p ∧ Hf p = none ∧ H p = some ob ∧ Cell K Hf ob v)
  dist : ∀ (i j : Nat) (v w : PV) (b : Addr), ρ[i]? = some (some (true, v)) → ρ[j]? = some (some (true, w)) → σ[i]? = some (some (.ref b)) → σ[j]? = some (some (.ref b)) → i = j
/-- from one state to a later one -/
structure Step (ρ : Env) (Hf : Hp) (σ : St) (H : Hp) (ρ' : Env) (Hf' : Hp) (σ' : St) (H' : Hp) : Prop where
  sub : Bel Hf Hf'
  keep : ∀ b o, H b = some o → ¬ Own ρ σ b → H' b = some o
  new : ∀ b, Hf' b ≠ none → Hf b ≠ none ∨ Own ρ σ b ∨ H b = none
  own : ∀ b, Own ρ' σ' b → Own ρ σ b ∨ H b = none
  there : ∀ b, H b ≠ none → H' b ≠ none
section
variable {K : PySem.W.Frag} {ρ ρ1 ρ2 : Env} {Hf Hf1 Hf2 : Hp} {σ σ1 σ2 : St} {H H1 H2 : Hp}
theorem Step.rfl' : Step ρ Hf σ H ρ Hf σ H := ⟨.rfl', fun _ _ h _ => h, fun _ h => .inl h, fun _ h => .inl h, fun _ h => h⟩
theorem Step.trans (a : Step ρ Hf σ H ρ1 Hf1 σ1 H1) (b : Step ρ1 Hf1 σ1 H1 ρ2 Hf2 σ2 H2) : Step ρ Hf σ H ρ2 Hf2 σ2 H2 where
  sub := a.sub.trans b.sub
  keep := fun c o h n => b.keep c o (a.keep c o h n) fun w => by
    rcases a.own c w with z | z
    · exact n z
    · rw [h] at z; cases z
  new := fun c h => by
    have up : H1 c = none → H c = none := fun z => Classical.byContradiction fun n => a.there c n z
    rcases b.new c h with z | z | z
    · exact a.new c z
    · rcases a.own c z with z | z
      · exact .inr (.inl z)
      · exact .inr (.inr z)
    · exact .inr (.inr (up z))
  own := fun c h => by
    rcases b.own c h with z | z
    · exact a.own c z
    · exact .inr (Classical.byContradiction fun n => a.there c n z)
  there := fun c h => b.there c (a.there c h)
end
end MC
set_option Elab.async false
set_option linter.all false
set_option maxRecDepth 100000
set_option maxHeartbeats 4000000
namespace MC
open PySem PySem.Spec L2

/-! ### what a piece computes -/
abbrev M (α : Type) := Env → Option (α × Env)
def ret {α : Type} (a : α) : M α := fun ρ => some (a, ρ)
def bad {α : Type} : M α := fun _ => none
def andThen {α β : Type} (f : M α) (g : α → M β) : M β := fun ρ => match f ρ with
  | some (a, ρ1) => g a ρ1
  | none => none
instance : Monad M where
  pure := ret
  bind := andThen
def lift {α : Type} (o : Option α) : M α := fun ρ => match o with
  | some a => some (a, ρ)
  | none => none
theorem bind_eq {α β : Type} (f : M α) (g : α → M β) (ρ : Env) : (f >>= g) ρ = match f ρ with
  | some (a, ρ1) => g a ρ1
  | none => none := rfl
theorem pure_eq {α : Type} (a : α) (ρ : Env) : (pure a : M α) ρ = some (a, ρ) := rfl
theorem lift_eq {α : Type} (o : Option α) (ρ : Env) : lift o ρ = o.map fun a => (a, ρ) := by cases o <;> rfl
def wp {α : Type} (f : M α) (ρ : Env) (P : α → Env → Prop) : Prop := match f ρ with
  | some (a, ρ1) => P a ρ1
  | none => False
theorem wp_mono {α : Type} {f : M α} {ρ : Env} {P P' : α → Env → Prop} (h : wp f ρ P) (k : ∀ a ρ1, P a ρ1 → P' a ρ1) : wp f ρ P' := by
  unfold wp at h ⊢
  cases e : f ρ with
  | none => rw [e] at h; exact h
  | some r => rw [e] at h; exact k _ _ h
theorem wp_bind {α β : Type} {f : M α} {g : α → M β} {ρ : Env} {P : β → Env → Prop} : wp (f >>= g) ρ P ↔ wp f ρ fun a ρ1 => wp (g a) ρ1 P := by
  unfold wp
  rw [bind_eq]
  cases e : f ρ with
  | none => exact Iff.rfl
  | some r => exact Iff.rfl
theorem wp_pure {α : Type} {a : α} {ρ : Env} {P : α → Env → Prop} : wp (pure a : M α) ρ P ↔ P a ρ := Iff.rfl
theorem wp_lift {α : Type} {o : Option α} {ρ : Env} {P : α → Env → Prop} : wp (lift o) ρ P ↔ ∃ a, o = some a ∧ P a ρ := by
  unfold wp lift
  cases o with
  | none => simp
  | some a => simp
theorem wp_some {α : Type} {f : M α} {ρ ρ1 : Env} {a : α} {P : α → Env → Prop} (e : f ρ = some (a, ρ1)) (h : P a ρ1) : wp f ρ P := by
  unfold wp; rw [e]; exact h
theorem wp_iff {α : Type} {f : M α} {ρ : Env} {P : α → Env → Prop} : wp f ρ P ↔ ∃ a ρ1, f ρ = some (a, ρ1) ∧ P a ρ1 := by
  unfold wp
  cases e : f ρ with
  | none => simp
  | some r =>
    obtain ⟨a, ρ1⟩ := r
    exact ⟨fun h => ⟨a, ρ1, rfl, h⟩, fun ⟨_, _, q, h⟩ => by cases q; exact h⟩

/-- a value that may be an object of its own -/
abbrev OV := Bool × PV
abbrev Sl := L2.St

section
variable {K : PySem.W.Frag} {ρ ρ' : Env} {Hf Hf' : Hp} {σ σ' : Sl} {H H' : Hp}
theorem Own.slot (r : R K ρ Hf σ H) {b : Addr} (o : Own ρ σ b) : Hf b = none ∧ ∃ ob, H b = some ob ∧ Mut (some ob) := by
  obtain ⟨i, v, e, s⟩ := o
  obtain ⟨v', s', _, h⟩ := r.vars i true v e
  obtain ⟨p, ob, rfl, h1, h2, h3⟩ := h rfl
  rw [s] at s'; cases s'
  exact ⟨h1, ob, h2, h3.mut⟩
theorem R.frozen (r : R K ρ Hf σ H) {b : Addr} (h : Hf b ≠ none) : ¬ Own ρ σ b := fun o => h (o.slot r).1
/-- the heap grows -/
theorem R.grow (r : R K ρ Hf σ H) (s : Bel Hf Hf') (s' : Bel Hf' H') (k : ∀ b o, Own ρ σ b → H b = some o → H' b = some o) (n : ∀ b, Own ρ σ b → Hf' b = none) : R K ρ Hf' σ H' where
  sub := s'
  vars := fun i o v e => by
    obtain ⟨v', e1, h1, h2⟩ := r.vars i o v e
    refine ⟨v', e1, fun z => (h1 z).sub s, fun z => ?_⟩
    obtain ⟨p, ob, rfl, a, b, c⟩ := h2 z
    subst z
    exact ⟨p, ob, rfl, n p ⟨i, v, e, e1⟩, k p ob ⟨i, v, e, e1⟩ b, c.sub s⟩
  dist := r.dist
/-- a slot is forgotten, or several -/
theorem R.less {ρ2 : Env} {σ2 : Sl} (r : R K ρ Hf σ H) (h : ∀ (i : Nat) x, ρ2[i]? = some (some x) → ρ[i]? = some (some x) ∧ σ2[i]? = σ[i]?) : R K ρ2 Hf σ2 H where
  sub := r.sub
  vars := fun i o v e => by
    obtain ⟨e1, e2⟩ := h i _ e
    rw [e2]
    exact r.vars i o v e1
  dist := fun i j v w b h1 h2 h3 h4 => by
    obtain ⟨a1, a2⟩ := h i _ h1
    obtain ⟨b1, b2⟩ := h j _ h2
    exact r.dist i j v w b a1 b1 (a2 ▸ h3) (b2 ▸ h4)
theorem getSet {α : Type} {l : List α} {i j : Nat} {x y : α} (h : (l.set i x)[j]? = some y) : (i = j ∧ y = x ∧ i < l.length) ∨ (i ≠ j ∧ l[j]? = some y) := by
  by_cases e : i = j
  · subst e
    by_cases hl : i < l.length
    · rw [List.getElem?_set_self hl] at h; cases h; exact .inl ⟨rfl, rfl, hl⟩
    · rw [List.getElem?_eq_none (by simpa using hl)] at h; cases h
  · rw [List.getElem?_set_ne e] at h
    exact .inr ⟨e, h⟩
/-- a plain value is stored -/
theorem R.setF (r : R K ρ Hf σ H) {i : Nat} {v' : V} {v : PV} (hi : i < σ.length) (h : Rep K Hf v' v) : R K (ρ.set i (some (false, v))) Hf (σ.set i (some v')) H where
  sub := r.sub
  vars := fun j o w e => by
    rcases getSet e with ⟨rfl, e2, _⟩ | ⟨ne, e2⟩
    · cases e2
      exact ⟨v', List.getElem?_set_self hi, fun _ => h, fun z => nomatch z⟩
    · rw [List.getElem?_set_ne ne]
      exact r.vars j o w e2
  dist := fun j k u w b h1 h2 h3 h4 => by
    rcases getSet h1 with ⟨rfl, e2, _⟩ | ⟨ne, e2⟩
    · cases e2
    · rcases getSet h2 with ⟨rfl, e3, _⟩ | ⟨ne2, e3⟩
      · cases e3
      · rw [List.getElem?_set_ne ne] at h3
        rw [List.getElem?_set_ne ne2] at h4
        exact r.dist j k u w b e2 e3 h3 h4
/-- an object of its own is stored -/
theorem R.setO (r : R K ρ Hf σ H) {i : Nat} {p : Addr} {ob : HO} {v : PV} (hi : i < σ.length) (h1 : Hf p = none) (h2 : H p = some ob) (h3 : Cell K Hf ob v) (h4 : ¬ Own ρ σ p) : R K (ρ.set i (some (true, v))) Hf (σ.set i (some (.ref p))) H where
  sub := r.sub
  vars := fun j o w e => by
    rcases getSet e with ⟨rfl, e2, _⟩ | ⟨ne, e2⟩
    · cases e2
      exact ⟨.ref p, List.getElem?_set_self hi, fun z => Bool.noConfusion z, fun _ => ⟨p, ob, rfl, h1, h2, h3⟩⟩
    · rw [List.getElem?_set_ne ne]
      exact r.vars j o w e2
  dist := fun j k u w b a1 a2 a3 a4 => by
    rcases getSet a1 with ⟨rfl, e2, _⟩ | ⟨ne, e2⟩
    · rw [List.getElem?_set_self hi] at a3
      cases a3
      rcases getSet a2 with ⟨rfl, e3, _⟩ | ⟨ne2, e3⟩
      · rfl
      · rw [List.getElem?_set_ne ne2] at a4
        exact absurd ⟨k, w, e3, a4⟩ h4
    · rcases getSet a2 with ⟨rfl, e3, _⟩ | ⟨ne2, e3⟩
      · rw [List.getElem?_set_self hi] at a4
        cases a4
        rw [List.getElem?_set_ne ne] at a3
        exact absurd ⟨j, u, e2, a3⟩ h4
      · rw [List.getElem?_set_ne ne] at a3
        rw [List.getElem?_set_ne ne2] at a4
        exact r.dist j k u w b e2 e3 a3 a4
/-- an own object's new content -/
theorem R.write (r : R K ρ Hf σ H) {i : Nat} {p : Addr} {ob : HO} {v w : PV} (e : ρ[i]? = some (some (true, v))) (s : σ[i]? = some (some (.ref p))) (h : Cell K Hf ob w) : R K (ρ.set i (some (true, w))) Hf σ (upd H p ob) where
  sub := fun a o q => by
    have n : a ≠ p := fun z => by
      have := (Own.slot r ⟨i, v, e, s⟩).1
      rw [z, this] at q; cases q
    rw [upd_ne n]
    exact r.sub a o q
  vars := fun j o u q => by
    have hN := (Own.slot r ⟨i, v, e, s⟩).1
    rcases getSet q with ⟨rfl, e2, _⟩ | ⟨ne, e2⟩
    · cases e2
      exact ⟨.ref p, s, fun z => Bool.noConfusion z, fun _ => ⟨p, ob, rfl, hN, upd_same, h⟩⟩
    · obtain ⟨v', s', h1, h2⟩ := r.vars j o u e2
      refine ⟨v', s', h1, fun z => ?_⟩
      obtain ⟨p', ob', rfl, a, b, c⟩ := h2 z
      subst z
      have n : p' ≠ p := fun z => ne (r.dist i j v u p e e2 s (z ▸ s'))
      exact ⟨p', ob', rfl, a, by rw [upd_ne n]; exact b, c⟩
  dist := fun j k u w' b a1 a2 a3 a4 => by
    rcases getSet a1 with ⟨rfl, e2, _⟩ | ⟨ne, e2⟩
    · rcases getSet a2 with ⟨rfl, e3, _⟩ | ⟨ne2, e3⟩
      · rfl
      · exact r.dist _ _ _ _ b e e3 a3 a4
    · rcases getSet a2 with ⟨rfl, e3, _⟩ | ⟨ne2, e3⟩
      · exact r.dist _ _ _ _ b e2 e a3 a4
      · exact r.dist _ _ _ _ b e2 e3 a3 a4
/-- an own object becomes a plain value -/
def frz1 (ρ : Env) (i : Nat) (v : PV) : Env := ρ.set i (some (false, v))
theorem R.freeze (r : R K ρ Hf σ H) {i : Nat} {p : Addr} {ob : HO} {v : PV} (e : ρ[i]? = some (some (true, v))) (s : σ[i]? = some (some (.ref p))) (h : H p = some ob) : R K (frz1 ρ i v) (upd Hf p ob) σ H := by
  have hN := (Own.slot r ⟨i, v, e, s⟩).1
  obtain ⟨v', s', _, hc⟩ := r.vars i true v e
  obtain ⟨p', ob', rfl, _, a2, a3⟩ := hc rfl
  rw [s] at s'; cases s'
  rw [h] at a2; cases a2
  have sb : Bel Hf (upd Hf p ob) := Bel.upd hN
  refine ⟨fun a o q => ?_, fun j o w q => ?_, fun j k u w b a1 a2 a3 a4 => ?_⟩
  · by_cases n : a = p
    · subst n; rw [upd_same] at q; cases q; exact .inl h
    · rw [upd_ne n] at q; exact r.sub a o q
  · rcases getSet q with ⟨rfl, e2, _⟩ | ⟨ne, e2⟩
    · cases e2
      exact ⟨.ref p, s, fun _ => (a3.sub sb).rep upd_same, fun z => nomatch z⟩
    · obtain ⟨v', s', h1, h2⟩ := r.vars j o w e2
      refine ⟨v', s', fun z => (h1 z).sub sb, fun z => ?_⟩
      obtain ⟨p', ob', rfl, a, b, c⟩ := h2 z
      subst z
      have n : p' ≠ p := fun z => ne (r.dist i j v w p e e2 s (z ▸ s'))
      exact ⟨p', ob', rfl, by rw [upd_ne n]; exact a, b, c.sub sb⟩
  · rcases getSet a1 with ⟨rfl, e2, _⟩ | ⟨ne, e2⟩
    · cases e2
    · rcases getSet a2 with ⟨rfl, e3, _⟩ | ⟨ne2, e3⟩
      · cases e3
      · exact r.dist _ _ _ _ b e2 e3 a3 a4
theorem Own.frz {i : Nat} {v : PV} {b : Addr} (o : Own (frz1 ρ i v) σ b) : Own ρ σ b := by
  obtain ⟨j, w, e, s⟩ := o
  rcases getSet e with ⟨rfl, e2, _⟩ | ⟨ne, e2⟩
  · cases e2
  · exact ⟨j, w, e2, s⟩
theorem Step.freeze (r : R K ρ Hf σ H) {i : Nat} {p : Addr} {ob : HO} {v : PV} (e : ρ[i]? = some (some (true, v))) (s : σ[i]? = some (some (.ref p))) : Step ρ Hf σ H (frz1 ρ i v) (upd Hf p ob) σ H where
  sub := Bel.upd (Own.slot r ⟨i, v, e, s⟩).1
  keep := fun _ _ h _ => h
  new := fun b h => by
    by_cases n : b = p
    · subst n; exact .inr (.inl ⟨i, v, e, s⟩)
    · rw [upd_ne n] at h; exact .inl h
  own := fun b o => .inl o.frz
  there := fun _ h => h
/-- a temporary object becomes a plain value -/
theorem R.commit (r : R K ρ Hf σ H) {p : Addr} {ob : HO} (h1 : Hf p = none) (h2 : H p = some ob) (h4 : ¬ Own ρ σ p) : R K ρ (upd Hf p ob) σ H :=
  r.grow (.upd h1) (fun a o q => by
    by_cases n : a = p
    · subst n; rw [upd_same] at q; cases q; exact .inl h2
    · rw [upd_ne n] at q; exact r.sub a o q) (fun _ _ _ h => h) fun b o => by
      have n : b ≠ p := fun z => h4 (z ▸ o)
      rw [upd_ne n]; exact (o.slot r).1
end

/-! ### readings -/
/-- the value's place: plain, or an object of its own -/
def RO (K : PySem.W.Frag) (ρ : Env) (Hf : Hp) (σ : Sl) (H : Hp) (v' : V) : OV → Prop
  | (false, v) => Rep K Hf v' v
  | (true, v) => ∃ p ob, v' = .ref p ∧ Hf p = none ∧ H p = some ob ∧ Cell K Hf ob v ∧ ¬ Own ρ σ p
/-- it is new since H0 -/
def NewO (H0 : Hp) (v' : V) (x : OV) : Prop := x.1 = true → ∀ p, v' = .ref p → H0 p = none
/-- an operand: readable in H, its parts standing in Hf -/
def Opd (K : PySem.W.Frag) (Hf H : Hp) (v' : V) : PV → Prop
  | .lst xs => ∃ a vs, v' = .ref a ∧ H a = some (.lst vs) ∧ Reps K Hf vs xs
  | .dic ks xs => ∃ (a : Addr) (vs : List V), v' = .ref a ∧ Reps K Hf vs xs ∧
      ((∃ kk : List Key, Rd H a (.dK (kk.zip vs)) ∧ kk.length = vs.length ∧ ks = kk.map kP) ∨
       (∃ kk : List (List Key), kk ≠ [] ∧ Rd H a (.dT (kk.zip vs)) ∧ kk.length = vs.length ∧ ks = kk.map fun l => .tup (l.map kP)))
  | x => Rep K Hf v' x
theorem Rep.opd {K : PySem.W.Frag} {Hf H : Hp} {v' : V} {x : PV} (s : Bel Hf H) (h : Rep K Hf v' x) : Opd K Hf H v' x := by
  cases x with
  | lst xs =>
    unfold Rep at h
    obtain ⟨a, vs, e, h1, h2⟩ := h
    exact ⟨a, vs, e, s.lst h1, h2⟩
  | dic ks xs =>
    unfold Rep at h
    obtain ⟨a, vs, e, h2, h3⟩ := h
    refine ⟨a, vs, e, h2, ?_⟩
    rcases h3 with ⟨kk, r, l, e⟩ | ⟨kk, n, r, l, e⟩
    · exact .inl ⟨kk, s.rd r, l, e⟩
    · exact .inr ⟨kk, n, s.rd r, l, e⟩
  | _ => exact h
theorem Cell.opd {K : PySem.W.Frag} {Hf H : Hp} {p : Addr} {ob : HO} {x : PV} (h : H p = some ob) (c : Cell K Hf ob x) : Opd K Hf H (.ref p) x := by
  cases x with
  | lst xs => obtain ⟨vs, e, r⟩ := c; subst e; exact ⟨p, vs, rfl, h, r⟩
  | dic ks xs =>
    obtain ⟨vs, r, ⟨kk, e, h1, h2⟩ | ⟨kk, n, e, h1, h2⟩⟩ := c
    · subst e; exact ⟨p, vs, rfl, r, .inl ⟨kk, .inl h, h1, h2⟩⟩
    · subst e; exact ⟨p, vs, rfl, r, .inr ⟨kk, n, .inl h, h1, h2⟩⟩
  | _ => exact c.elim
theorem Opd.flat {K : PySem.W.Frag} {Hf H : Hp} {v' : V} {x : PV} (f : x.flat = true) (h : Opd K Hf H v' x) : Rep K Hf v' x := by
  cases x <;> first | exact h | cases f

section
variable (K : PySem.W.Frag)
def tE (f : M OV) : TE := fun σ H Q => ∃ ρ Hf, R K ρ Hf σ H ∧ wp f ρ fun x ρ' => ∀ v' Hf' H', R K ρ' Hf' σ H' → Step ρ Hf σ H ρ' Hf' σ H' → RO K ρ' Hf' σ H' v' x → NewO H v' x → Q v' H'
/-- the value as a plain one -/
def tF (f : M PV) : TE := fun σ H Q => ∃ ρ Hf, R K ρ Hf σ H ∧ wp f ρ fun x ρ' => ∀ v' Hf' H', R K ρ' Hf' σ H' → Step ρ Hf σ H ρ' Hf' σ H' → Rep K Hf' v' x → Q v' H'
/-- the value as an operand -/
def tO (f : M PV) : TE := fun σ H Q => ∃ ρ Hf, R K ρ Hf σ H ∧ wp f ρ fun x ρ' => ∀ v' Hf' H', R K ρ' Hf' σ H' → Step ρ Hf σ H ρ' Hf' σ H' → Opd K Hf' H' v' x → Q v' H'
def tT (f : M Bool) : TT := fun σ H Q => ∃ ρ Hf, R K ρ Hf σ H ∧ wp f ρ fun x ρ' => ∀ Hf' H', R K ρ' Hf' σ H' → Step ρ Hf σ H ρ' Hf' σ H' → Q x H'
/-- a list of plain values -/
def tL (f : M (List PV)) : TA := fun σ H Q => ∃ ρ Hf, R K ρ Hf σ H ∧ wp f ρ fun xs ρ' => ∀ vs' Hf' H', R K ρ' Hf' σ H' → Step ρ Hf σ H ρ' Hf' σ H' → Reps K Hf' vs' xs → Q vs' H'
/-- the operand alone, as an argument list -/
def tL1 (f : M PV) : TA := fun σ H Q => ∃ ρ Hf, R K ρ Hf σ H ∧ wp f ρ fun x ρ' => ∀ v' Hf' H', R K ρ' Hf' σ H' → Step ρ Hf σ H ρ' Hf' σ H' → Opd K Hf' H' v' x → Q [v'] H'
end
/-- it is new since then, or was an own object then -/
def NewR (ρ0 : Env) (σ0 : Sl) (H0 : Hp) (v' : V) (x : OV) : Prop := x.1 = true → ∀ p, v' = .ref p → Own ρ0 σ0 p ∨ H0 p = none
theorem NewO.r {ρ0 : Env} {σ0 : Sl} {H0 : Hp} {v' : V} {x : OV} (h : NewO H0 v' x) : NewR ρ0 σ0 H0 v' x := fun z p e => .inr (h z p e)
theorem Step.newR {ρ ρ1 : Env} {Hf Hf1 : Hp} {σ σ1 : Sl} {H H1 : Hp} {v' : V} {x : OV} (s : Step ρ Hf σ H ρ1 Hf1 σ1 H1) (h : NewR ρ1 σ1 H1 v' x) : NewR ρ σ H v' x := fun z p e => by
  rcases h z p e with w | w
  · exact s.own p w
  · exact .inr (Classical.byContradiction fun n => s.there p n w)
/-- what code comes to -/
inductive Fl where
  | nx | bk | ct | rt (x : OV)
/-- a statement; ios: slots whose object is the caller's -/
def tS (K : PySem.W.Frag) (ios : List Nat) (f : M Fl) : TS := fun D σ H => ∃ ρ Hf, R K ρ Hf σ H ∧ wp f ρ fun x ρ' => ∀ Hf' σ' H', R K ρ' Hf' σ' H' → Step ρ Hf σ H ρ' Hf' σ' H' → σ'.length = σ.length → (∀ i ∈ ios, σ'[i]? = σ[i]?) →
  match x with
  | .nx => D.nx σ' H'
  | .bk => D.bk σ' H'
  | .ct => D.ct σ' H'
  | .rt y => ∀ v', RO K ρ' Hf' σ' H' v' y → NewR ρ σ H v' y → D.rt v' H'

structure WE (X : Cx) (e : Expr) (f : M OV) : Prop where
  pe : PE X e (tE X.K f)
structure WF (X : Cx) (e : Expr) (f : M PV) : Prop where
  pe : PE X e (tF X.K f)
structure WO (X : Cx) (e : Expr) (f : M PV) : Prop where
  pe : PE X e (tO X.K f)
structure WT (X : Cx) (e : Expr) (f : M Bool) : Prop where
  pt : PT X e (tT X.K f)
structure WL (X : Cx) (es : List Expr) (f : M (List PV)) : Prop where
  pa : PA X es (tL X.K f)
structure WS (ios : List Nat) (X : Cx) (s : Stmt) (f : M Fl) : Prop where
  ps : PS X s (tS X.K ios f)
structure WSs (ios : List Nat) (X : Cx) (s : List Stmt) (f : M Fl) : Prop where
  ps : PSs X s (tS X.K ios f)

section
variable {X : Cx} {e : Expr} {t t' : TE} {c c' : TT}
theorem peWeak (h : PE X e t) (k : ∀ σ H Q, t' σ H Q → t σ H Q) : PE X e t' := ⟨fun pins s σ H Q I q => h.run pins s σ H Q I (k σ H Q q)⟩
theorem ptWeak (h : PT X e c) (k : ∀ σ H Q, c' σ H Q → c σ H Q) : PT X e c' := ⟨fun pins s σ H Q I q => h.run pins s σ H Q I (k σ H Q q)⟩
theorem paWeak {es : List Expr} {t t' : TA} (h : PA X es t) (k : ∀ σ H Q, t' σ H Q → t σ H Q) : PA X es t' := ⟨fun pos pins s σ H Q I q => h.run pos pins s σ H Q I (k σ H Q q)⟩
theorem psWeak {st : Stmt} {t t' : TS} (h : PS X st t) (k : ∀ D σ H, t' D σ H → t D σ H) : PS X st t' := ⟨fun pins s σ H D I q => h.run pins s σ H D I (k D σ H q)⟩
theorem pssWeak {st : List Stmt} {t t' : TS} (h : PSs X st t) (k : ∀ D σ H, t' D σ H → t D σ H) : PSs X st t' := ⟨fun pins s σ H D I q => h.run pins s σ H D I (k D σ H q)⟩

/-- the object's flag dropped -/
def asF (f : M OV) : M PV := f >>= fun x => pure x.2
theorem WE.wf {f : M OV} (h : WE X e f) : WF X e (asF f) := ⟨peWeak h.pe fun σ H Q ⟨ρ, Hf, r, w⟩ => by
  unfold asF at w
  rw [wp_bind] at w
  refine ⟨ρ, Hf, r, wp_mono w fun x ρ' k v' Hf' H' r' s ro nw => ?_⟩
  have k := wp_pure.mp k
  obtain ⟨o, v⟩ := x
  cases o with
  | false => exact k v' Hf' H' r' s ro
  | true =>
    obtain ⟨p, ob, rfl, h1, h2, h3, h4⟩ := ro
    have sb : Bel Hf' (upd Hf' p ob) := Bel.upd h1
    refine k (.ref p) (upd Hf' p ob) H' (r'.commit h1 h2 h4) ⟨s.sub.trans sb, s.keep, fun b hb => ?_, s.own, s.there⟩ ((h3.sub sb).rep upd_same)
    by_cases n : b = p
    · subst n; exact .inr (.inr (nw rfl b rfl))
    · rw [upd_ne n] at hb; exact s.new b hb⟩
theorem WE.wo {f : M OV} (h : WE X e f) : WO X e (asF f) := ⟨peWeak h.pe fun σ H Q ⟨ρ, Hf, r, w⟩ => by
  unfold asF at w
  rw [wp_bind] at w
  refine ⟨ρ, Hf, r, wp_mono w fun x ρ' k v' Hf' H' r' s ro nw => ?_⟩
  have k := wp_pure.mp k
  obtain ⟨o, v⟩ := x
  cases o with
  | false => exact k v' Hf' H' r' s (Rep.opd r'.sub ro)
  | true =>
    obtain ⟨p, ob, rfl, h1, h2, h3, h4⟩ := ro
    exact k (.ref p) Hf' H' r' s (h3.opd h2)⟩
theorem WF.we {f : M PV} (h : WF X e f) : WE X e (f >>= fun v => pure (false, v)) := ⟨peWeak h.pe fun σ H Q ⟨ρ, Hf, r, w⟩ => by
  rw [wp_bind] at w
  refine ⟨ρ, Hf, r, wp_mono w fun x ρ' k v' Hf' H' r' s ro => ?_⟩
  exact wp_pure.mp k v' Hf' H' r' s ro fun z => nomatch z⟩
/-- a slot's value as it stands -/
def look (i : Nat) : M PV := fun ρ => match ρ[i]? with
  | some (some (_, v)) => some (v, ρ)
  | _ => none
/-- a slot's value, its object no longer its own -/
def take (i : Nat) : M PV := fun ρ => match ρ[i]? with
  | some (some (false, v)) => some (v, ρ)
  | some (some (true, v)) => some (v, frz1 ρ i v)
  | _ => none
theorem look_inv {i : Nat} {ρ : Env} {P : PV → Env → Prop} (h : wp (look i) ρ P) : ∃ o v, ρ[i]? = some (some (o, v)) ∧ P v ρ := by
  unfold wp look at h
  cases e : ρ[i]? with
  | none => rw [e] at h; exact h.elim
  | some x =>
    cases x with
    | none => rw [e] at h; exact h.elim
    | some y => rw [e] at h; exact ⟨y.1, y.2, rfl, h⟩
theorem wo_var (i : Nat) {x : Str} {pos : Pos} (hN : X.N[i]? = some x := by rfl) (hv : Vis X.env.scope x := by first | exact Or.inl rfl | exact Or.inr (Or.inl rfl) | exact Or.inr (Or.inr rfl)) (hd : (x == ("__debug__" : Str)) = false := by decide)
    (hcd : (x == ("__classdict__" : Str)) = false := by decide) : WO X (.Name x pos) (look i) := ⟨peWeak (pe_var hN hv hd hcd) fun σ H Q ⟨ρ, Hf, r, w⟩ => by
  obtain ⟨o, v, e, k⟩ := look_inv w
  obtain ⟨v', s, h1, h2⟩ := r.vars i o v e
  refine ⟨v', s, k v' Hf H r .rfl' ?_⟩
  cases o with
  | false => exact Rep.opd r.sub (h1 rfl)
  | true =>
    obtain ⟨p, ob, rfl, a1, a2, a3⟩ := h2 rfl
    exact a3.opd a2⟩
theorem wf_var (i : Nat) {x : Str} {pos : Pos} (hN : X.N[i]? = some x := by rfl) (hv : Vis X.env.scope x := by first | exact Or.inl rfl | exact Or.inr (Or.inl rfl) | exact Or.inr (Or.inr rfl)) (hd : (x == ("__debug__" : Str)) = false := by decide)
    (hcd : (x == ("__classdict__" : Str)) = false := by decide) : WF X (.Name x pos) (take i) := ⟨peWeak (pe_var hN hv hd hcd) fun σ H Q ⟨ρ, Hf, r, w⟩ => by
  unfold wp take at w
  cases e : ρ[i]? with
  | none => rw [e] at w; exact w.elim
  | some y =>
    cases y with
    | none => rw [e] at w; exact w.elim
    | some z =>
      obtain ⟨o, v⟩ := z
      rw [e] at w
      obtain ⟨v', s, h1, h2⟩ := r.vars i o v e
      cases o with
      | false => exact ⟨v', s, w v' Hf H r .rfl' (h1 rfl)⟩
      | true =>
        obtain ⟨p, ob, rfl, a1, a2, a3⟩ := h2 rfl
        have r2 := r.freeze e s a2
        refine ⟨.ref p, s, w _ _ H r2 (.freeze r e s) ((a3.sub (Bel.upd a1)).rep upd_same)⟩⟩
/-- constants -/
theorem wf_flat {v : V} {x : PV} (h : PE X e (tC v)) (hr : ∀ (K : PySem.W.Frag) (H : Hp), Rep K H v x) : WF X e (pure x) := ⟨peWeak h fun σ H Q ⟨ρ, Hf, r, w⟩ => wp_pure.mp w v Hf H r .rfl' (hr _ _)⟩
theorem wf_int {i j pos} : WF X (.Constant (.int i) j pos) (pure (.int i)) := wf_flat pe_int fun _ _ => by unfold Rep; rfl
theorem wf_bl {b j pos} : WF X (.Constant (.bool b) j pos) (pure (.bl b)) := wf_flat pe_bl fun _ _ => by unfold Rep; rfl
theorem wf_str {x j pos} : WF X (.Constant (.str x) j pos) (pure (.str x)) := wf_flat pe_str fun _ _ => by unfold Rep; rfl
theorem wf_non {j pos} : WF X (.Constant .none j pos) (pure .non) := wf_flat pe_non fun _ _ => by unfold Rep; rfl
theorem WF.wo {f : M PV} (h : WF X e f) : WO X e f := ⟨peWeak h.pe fun σ H Q ⟨ρ, Hf, r, w⟩ => ⟨ρ, Hf, r, wp_mono w fun x ρ' k v' Hf' H' r' s ro => k v' Hf' H' r' s (Rep.opd r'.sub ro)⟩⟩
end
end MC
set_option Elab.async false
set_option linter.all false
set_option maxRecDepth 100000
set_option maxHeartbeats 4000000
namespace MC
open PySem PySem.Spec L2

/-! ### operations on values -/
/-- what an operation leaves: the heap as it was, or one new object -/
def Res1 (K : PySem.W.Frag) (Hf H : Hp) (v' : V) (H' : Hp) (r : OV) : Prop :=
  (H' = H ∧ r.1 = false ∧ Rep K Hf v' r.2) ∨
  (∃ p ob, v' = .ref p ∧ H p = none ∧ H' = upd H p ob ∧ (r.1 = true → Cell K Hf ob r.2) ∧ (r.1 = false → ∀ H1, H1 p = some ob → Bel Hf H1 → Rep K H1 (.ref p) r.2))
section
variable {K : PySem.W.Frag} {ρ : Env} {Hf : Hp} {σ : Sl} {H H' : Hp} {v' : V}
theorem Res1.same {x : PV} (h : Rep K Hf v' x) : Res1 K Hf H v' H (false, x) := .inl ⟨rfl, rfl, h⟩
theorem Res1.lst {p : Addr} {vs : List V} {xs : List PV} (n : H p = none) (h : Reps K Hf vs xs) : Res1 K Hf H (.ref p) (upd H p (.lst vs)) (true, .lst xs) :=
  .inr ⟨p, _, rfl, n, rfl, fun _ => ⟨vs, rfl, h⟩, fun z => nomatch z⟩
theorem Res1.tup {p : Addr} {vs : List V} {xs : List PV} (n : H p = none) (h : Reps K Hf vs xs) : Res1 K Hf H (.ref p) (upd H p (.tup vs)) (false, .tup xs) :=
  .inr ⟨p, _, rfl, n, rfl, fun z => Bool.noConfusion z, fun _ H1 e s => by unfold Rep; exact ⟨p, vs, rfl, e, h.sub s⟩⟩
theorem Res1.use {x : OV} (r : R K ρ Hf σ H) (h : Res1 K Hf H v' H' x) : ∃ Hf', R K ρ Hf' σ H' ∧ Step ρ Hf σ H ρ Hf' σ H' ∧ RO K ρ Hf' σ H' v' x ∧ NewO H v' x := by
  rcases h with ⟨rfl, e, h⟩ | ⟨p, ob, rfl, n, rfl, h1, h2⟩
  · obtain ⟨o, v⟩ := x
    cases o with
    | false => exact ⟨Hf, r, .rfl', h, fun z => nomatch z⟩
    | true => cases e
  · have hf : Hf p = none := Classical.byContradiction fun z => (r.sub.some_ z) n
    have no : ¬ Own ρ σ p := fun o => by obtain ⟨_, ob', e, _⟩ := o.slot r; rw [n] at e; cases e
    have gr : R K ρ Hf σ (upd H p ob) := r.grow .rfl' (r.sub.trans (.upd n)) (fun b o w e => by rw [upd_ne (ne_of_none e n)]; exact e) fun b o => (o.slot r).1
    have th : ∀ b, H b ≠ none → upd H p ob b ≠ none := fun b hb => by
      have : b ≠ p := fun z => hb (z ▸ n)
      rw [upd_ne this]; exact hb
    obtain ⟨o, v⟩ := x
    cases o with
    | true =>
      exact ⟨Hf, gr, ⟨.rfl', fun b o e _ => by rw [upd_ne (ne_of_none e n)]; exact e, fun b z => .inl z, fun b z => .inl z, th⟩, ⟨p, ob, rfl, hf, upd_same, h1 rfl, no⟩, fun _ q e => by cases e; exact n⟩
    | false =>
      refine ⟨upd Hf p ob, gr.commit hf upd_same no, ⟨.upd hf, fun b o e _ => by rw [upd_ne (ne_of_none e n)]; exact e, fun b z => ?_, fun b z => .inl z, th⟩, h2 rfl _ upd_same (.upd hf), fun z => nomatch z⟩
      by_cases e : b = p
      · subst e; exact .inr (.inr n)
      · rw [upd_ne e] at z; exact .inl z
end
/-- a two-place operation by its rule on plain values -/
def rP (K : PySem.W.Frag) (g : PV → PV → Option OV) : R2 := fun x' y' H Q => ∃ Hf x y r, Bel Hf H ∧ Opd K Hf H x' x ∧ Opd K Hf H y' y ∧ g x y = some r ∧ ∀ v' H', Res1 K Hf H v' H' r → Q v' H'
def OpP (X : Cx) (f : Value → Value → Sem Value) (g : PV → PV → Option OV) : Prop := OpR X f (rP X.K g)
def r1P (K : PySem.W.Frag) (g : PV → Option OV) : V → Hp → VK → Prop := fun x' H Q => ∃ Hf x r, Bel Hf H ∧ Opd K Hf H x' x ∧ g x = some r ∧ ∀ v' H', Res1 K Hf H v' H' r → Q v' H'
def UnP (X : Cx) (f : Value → Sem Value) (g : PV → Option OV) : Prop := UnR X f (r1P X.K g)
/-- a call by its rule on one operand -/
def CallP (X : Cx) (f : Value) (g : PV → Option OV) : Prop := CallR X f fun xs H Q => ∃ x', xs = [x'] ∧ r1P X.K g x' H Q

/-- two operands; two, the first a name that is looked at behind the second -/
def bin2 (fa fb : M PV) (g : PV → PV → Option OV) : M OV := fa >>= fun x => fb >>= fun y => lift (g x y)
def bin2v (i : Nat) (fb : M PV) (g : PV → PV → Option OV) : M OV := look i >>= fun _ => fb >>= fun y => look i >>= fun x => lift (g x y)
def un1 (fa : M PV) (g : PV → Option OV) : M OV := fa >>= fun x => lift (g x)
/-- .. whose answer is a bool, as a test -/
def isB : PV → Option Bool
  | .bl b => some b
  | _ => none
def asT (f : M OV) : M Bool := f >>= fun x => lift (isB x.2)
theorem isB_inv {x : PV} {b : Bool} (h : isB x = some b) : x = .bl b := by cases x <;> first | (cases h; rfl) | cases h
section
variable {X : Cx} {a b c : Expr} {pos : Pos} {fa fb fc : M PV} {g g' : PV → PV → Option OV} {g1 : PV → Option OV} {op : Operator} {cp cp' : CmpOp}
theorem newTo {H0 H1 : Hp} {v' : V} {x : OV} (t : ∀ b, H0 b ≠ none → H1 b ≠ none) (h : NewO H1 v' x) : NewO H0 v' x := fun z p e => Classical.byContradiction fun n => t _ n (h z p e)
theorem read2 {K : PySem.W.Frag} {σ : Sl} {H : Hp} {Q : VK} (h : tE K (bin2 fa fb g) σ H Q) : tOp (rP K g) (tF K fa) (tO K fb) σ H Q := by
  obtain ⟨ρ, Hf, r, w⟩ := h
  unfold bin2 at w
  rw [wp_bind] at w
  refine ⟨ρ, Hf, r, wp_mono w fun x ρ1 w v1 Hf1 H1 r1 s1 p1 => ?_⟩
  rw [wp_bind] at w
  refine ⟨ρ1, Hf1, r1, wp_mono w fun y ρ2 w v2 Hf2 H2 r2 s2 p2 => ?_⟩
  rw [wp_lift] at w
  obtain ⟨z, e, k⟩ := w
  refine ⟨Hf2, x, y, z, r2.sub, Rep.opd r2.sub (p1.sub s2.sub), p2, e, fun v' H' res => ?_⟩
  obtain ⟨Hf3, r3, s3, ro, nw⟩ := res.use r2
  exact k v' Hf3 H' r3 ((s1.trans s2).trans s3) ro (newTo (fun b n => s2.there _ (s1.there _ n)) nw)
theorem R.opd {K : PySem.W.Frag} {ρ : Env} {Hf : Hp} {σ : Sl} {H : Hp} (r : R K ρ Hf σ H) {i : Nat} {o : Bool} {v : PV} (e : ρ[i]? = some (some (o, v))) : ∃ v', σ[i]? = some (some v') ∧ Opd K Hf H v' v := by
  obtain ⟨v', s, h1, h2⟩ := r.vars i o v e
  refine ⟨v', s, ?_⟩
  cases o with
  | false => exact Rep.opd r.sub (h1 rfl)
  | true =>
    obtain ⟨p, ob, rfl, a1, a2, a3⟩ := h2 rfl
    exact a3.opd a2
/-- the first operand a name: its object is looked at behind the second's evaluation -/
theorem read2v {K : PySem.W.Frag} {i : Nat} {σ : Sl} {H : Hp} {Q : VK} (h : tE K (bin2v i fb g) σ H Q) : tOp (rP K g) (tVar i) (tO K fb) σ H Q := by
  obtain ⟨ρ, Hf, r, w⟩ := h
  unfold bin2v at w
  rw [wp_bind] at w
  obtain ⟨o, v, e, w⟩ := look_inv w
  obtain ⟨v', s, _⟩ := r.opd e
  refine ⟨v', s, ρ, Hf, r, ?_⟩
  rw [wp_bind] at w
  refine wp_mono w fun y ρ2 w v2 Hf2 H2 r2 s2 p2 => ?_
  rw [wp_bind] at w
  obtain ⟨o2, v2', e2, w⟩ := look_inv w
  obtain ⟨v3, s3, p3⟩ := r2.opd e2
  rw [s] at s3; cases s3
  rw [wp_lift] at w
  obtain ⟨z, e, k⟩ := w
  refine ⟨Hf2, v2', y, z, r2.sub, p3, p2, e, fun v' H' res => ?_⟩
  obtain ⟨Hf3, r3, s3, ro, nw⟩ := res.use r2
  exact k v' Hf3 H' r3 (s2.trans s3) ro (newTo s2.there nw)
theorem read1 {K : PySem.W.Frag} {σ : Sl} {H : Hp} {Q : VK} (h : tE K (un1 fa g1) σ H Q) : tO K fa σ H fun x' H' => r1P K g1 x' H' Q := by
  obtain ⟨ρ, Hf, r, w⟩ := h
  unfold un1 at w
  rw [wp_bind] at w
  refine ⟨ρ, Hf, r, wp_mono w fun x ρ1 w v1 Hf1 H1 r1 s1 p1 => ?_⟩
  rw [wp_lift] at w
  obtain ⟨z, e, k⟩ := w
  refine ⟨Hf1, x, z, r1.sub, p1, e, fun v' H' res => ?_⟩
  obtain ⟨Hf3, r3, s3, ro, nw⟩ := res.use r1
  exact k v' Hf3 H' r3 (s1.trans s3) ro (newTo s1.there nw)
theorem asT_read {K : PySem.W.Frag} {f : M OV} {σ : Sl} {H : Hp} {Q : Bool → Hp → Prop} (h : tT K (asT f) σ H Q) : tE K f σ H fun v H' => ∃ k, v = .bl k ∧ Q k H' := by
  obtain ⟨ρ, Hf, r, w⟩ := h
  unfold asT at w
  rw [wp_bind] at w
  refine ⟨ρ, Hf, r, wp_mono w fun x ρ1 w v1 Hf1 H1 r1 s1 p1 nw => ?_⟩
  rw [wp_lift] at w
  obtain ⟨k, e, q⟩ := w
  have e := isB_inv e
  obtain ⟨o, v⟩ := x
  cases e
  cases o with
  | false => exact ⟨k, by unfold RO Rep at p1; exact p1, q Hf1 H1 r1 s1⟩
  | true =>
    obtain ⟨p, ob, _, _, _, c, _⟩ := p1
    exact c.elim

theorem we_bin (ho : OpP X (binaryOp op) g) (ha : WF X a fa) (hb : WO X b fb) : WE X (.BinOp a op b pos) (bin2 fa fb g) := ⟨peWeak (pe_op ho ha.pe hb.pe) fun _ _ _ h => read2 h⟩
theorem we_binv (ho : OpP X (binaryOp op) g) {i : Nat} (ha : PE X a (tVar i)) (hb : WO X b fb) : WE X (.BinOp a op b pos) (bin2v i fb g) := ⟨peWeak (pe_op ho ha hb.pe) fun _ _ _ h => read2v h⟩
theorem we_un {uo : UnaryOp} (ho : UnP X (unaryOp uo) g1) (ha : WO X a fa) : WE X (.UnaryOp uo a pos) (un1 fa g1) := ⟨peWeak (pe_un ho ha.pe) fun _ _ _ h => read1 h⟩
theorem we_cmp (ho : OpP X (compareOp cp) g) (ha : WF X a fa) (hb : WO X b fb) (hm : behindInMarks cp b = false := by first | exact nomark _ | rfl) : WE X (.Compare a [cp] [b] pos) (bin2 fa fb g) := ⟨peWeak (pe_cmpR ho ha.pe hb.pe hm) fun _ _ _ h => read2 h⟩
theorem we_cmpv (ho : OpP X (compareOp cp) g) {i : Nat} (ha : PE X a (tVar i)) (hb : WO X b fb) (hm : behindInMarks cp b = false := by first | exact nomark _ | rfl) : WE X (.Compare a [cp] [b] pos) (bin2v i fb g) := ⟨peWeak (pe_cmpR ho ha hb.pe hm) fun _ _ _ h => read2v h⟩
theorem wt_cmp (ho : OpP X (compareOp cp) g) (ha : WF X a fa) (hb : WO X b fb) (hm : behindInMarks cp b = false := by first | exact nomark _ | rfl) : WT X (.Compare a [cp] [b] pos) (asT (bin2 fa fb g)) := ⟨ptWeak (pt_cmpR ho ha.pe hb.pe hm) fun _ _ _ h => read2 (asT_read h)⟩
theorem wt_cmpv (ho : OpP X (compareOp cp) g) {i : Nat} (ha : PE X a (tVar i)) (hb : WO X b fb) (hm : behindInMarks cp b = false := by first | exact nomark _ | rfl) : WT X (.Compare a [cp] [b] pos) (asT (bin2v i fb g)) := ⟨ptWeak (pt_cmpR ho ha hb.pe hm) fun _ _ _ h => read2v (asT_read h)⟩
/-- a op1 b op2 c, b plain -/
def chain (fa fb fc : M PV) (g g' : PV → PV → Option OV) : M OV := fa >>= fun x => fb >>= fun y => lift ((g x y).bind fun z => isB z.2) >>= fun k => if k = true then fc >>= fun z => lift (g' y z) else pure (false, .bl false)
theorem readChain {K : PySem.W.Frag} {σ : Sl} {H : Hp} {Q : VK} (h : tE K (chain fa fb fc g g') σ H Q) : tChain (rP K g) (rP K g') (tF K fa) (tF K fb) (tO K fc) σ H Q := by
  obtain ⟨ρ, Hf, r, w⟩ := h
  unfold chain at w
  rw [wp_bind] at w
  refine ⟨ρ, Hf, r, wp_mono w fun x ρ1 w v1 Hf1 H1 r1 s1 p1 => ?_⟩
  rw [wp_bind] at w
  refine ⟨ρ1, Hf1, r1, wp_mono w fun y ρ2 w v2 Hf2 H2 r2 s2 p2 => ?_⟩
  rw [wp_bind, wp_lift] at w
  obtain ⟨k, e, w⟩ := w
  obtain ⟨z, e1, e2⟩ := Option.bind_eq_some_iff.mp e
  have e2 := isB_inv e2
  have s12 := s1.trans s2
  refine ⟨Hf2, x, y, z, r2.sub, Rep.opd r2.sub (p1.sub s2.sub), Rep.opd r2.sub p2, e1, fun v' H' res => ?_⟩
  obtain ⟨Hf3, r3, s3, ro, nw⟩ := res.use r2
  obtain ⟨o, zv⟩ := z
  cases e2
  have ev : v' = .bl k := by
    cases o with
    | false => unfold RO Rep at ro; exact ro
    | true => obtain ⟨p, ob, _, _, _, c, _⟩ := ro; exact c.elim
  have s13 := s12.trans s3
  refine ⟨k, ev, ?_⟩
  cases k with
  | false =>
    rw [if_neg Bool.false_ne_true] at w ⊢
    exact wp_pure.mp w (.bl false) Hf3 H' r3 s13 (by unfold RO Rep; rfl) fun z => nomatch z
  | true =>
    rw [if_pos rfl] at w ⊢
    rw [wp_bind] at w
    refine ⟨ρ2, Hf3, r3, wp_mono w fun u ρ4 w v4 Hf4 H4 r4 s4 p4 => ?_⟩
    rw [wp_lift] at w
    obtain ⟨t, e, q⟩ := w
    refine ⟨Hf4, y, u, t, r4.sub, Rep.opd r4.sub (p2.sub (s3.sub.trans s4.sub)), p4, e, fun v5 H5 res => ?_⟩
    obtain ⟨Hf5, r5, s5, ro, nw⟩ := res.use r4
    have s14 := s13.trans s4
    exact q v5 Hf5 H5 r5 (s14.trans s5) ro (newTo s14.there nw)
theorem we_chain (ho : OpP X (compareOp cp) g) (ho' : OpP X (compareOp cp') g') (ha : WF X a fa) (hb : WF X b fb) (hc : WO X c fc) (hm : lastMarks [cp, cp'] [b, c] = false := by with_unfolding_all rfl) : WE X (.Compare a [cp, cp'] [b, c] pos) (chain fa fb fc g g') :=
  ⟨peWeak (pe_chain ho ho' ha.pe hb.pe hc.pe hm) fun _ _ _ h => readChain h⟩
theorem wt_chain (ho : OpP X (compareOp cp) g) (ho' : OpP X (compareOp cp') g') (ha : WF X a fa) (hb : WF X b fb) (hc : WO X c fc) (hm : lastMarks [cp, cp'] [b, c] = false := by with_unfolding_all rfl) : WT X (.Compare a [cp, cp'] [b, c] pos) (asT (chain fa fb fc g g')) :=
  ⟨ptWeak (pt_chain ho ho' ha.pe hb.pe hc.pe hm) fun _ _ _ h => readChain (asT_read h)⟩
end
end MC
set_option Elab.async false
set_option linter.all false
set_option maxRecDepth 100000
set_option maxHeartbeats 4000000
namespace MC
open PySem PySem.Spec PyProof.Rows L2
theorem tuple_mulS (l : Addr) (items : Array Value) (n : Nat) (dd : Option Addr) (sl : Array (Option Value)) (x : Int) (u : Tok) (c0 : (decide (x < -(2 ^ 63)) || decide (x ≥ 2 ^ 63)) = false) (c1 : (items.isEmpty || x == 1) = true) :
    Meets (Builtin.«tuple.__mul__» ⟨[.ref l, .int x u], []⟩) (fun _ R s => s.heap.get? l = some { cls := .type "tuple", dict := dd, data := .seq items n, slots := sl } ∧ R (.ok (.ret (Value.ref l))) s) :=
  .of_wp fun prog w A R s h => by
    obtain ⟨hp, g, d, tk, os⟩ := s
    obtain ⟨hl, h⟩ := h
    have f1 := AutoSeq1.idx_int
    wp_walk using wpAny_loadPart' hl
    repeat (first
      | (refine wpAny_ite_false (decide_eq_false (by rw [c0]; exact Bool.false_ne_true)) ?_; wp_walk using wpAny_loadPart' hl)
      | (refine wpAny_ite_true (decide_eq_true c1) ?_; wp_walk using wpAny_loadPart' hl))
    exact ⟨_, rfl, h⟩
/-- times one, or nothing in it: the same object -/
def rRepS (K : PySem.W.Frag) : R2 := fun x y H Q => ∃ l k xs, x = .ref l ∧ y = .int k ∧ SqT K H l xs ∧ (xs = [] ∨ k = 1) ∧ -(2 ^ 63) ≤ k ∧ k < 2 ^ 63 ∧ Q (.ref l) H
section
variable {X : Cx}
theorem op_repS : OpR X (binaryOp .Mult) (rRepS X.K) := by
  intro pins s σ H x y v u Q I rx ry h
  obtain ⟨l, k, xs, rfl, rfl, hT, hk, h1, h2, q⟩ := h
  cases rx
  obtain ⟨t, rfl⟩ := ry
  obtain ⟨its, r, ⟨⟨cls, dd, data, sl⟩, ho, hc, n, hd⟩, hs⟩ := I.tuple hT
  simp only at hc hd
  subst hc hd
  have hle : its.length = xs.length := r.length.symm
  have c0 : (decide (k < -(2 ^ 63)) || decide (k ≥ 2 ^ 63)) = false := by
    rw [decide_eq_false (by omega), decide_eq_false (by omega)] <;> rfl
  have c1 : (its.toArray.isEmpty || k == 1) = true := by
    rcases hk with rfl | rfl
    · have : its = [] := List.eq_nil_of_length_eq_zero hle
      subst this; rfl
    · rw [Bool.or_eq_true]; exact .inr rfl
  refine wpAny_binaryOp_repeat_ref (T := "tuple") (U := "int") (by decide) ⟨_, ho, rfl⟩ (fun s' => typeIs_int s' k t) noFill_tuple_mul F.fills_int_mul F.slot_int_rmul repeat_tuple F.slot_int_index.lookup
    (call_meets F.slot_int_rmul (typeIs_int s k t) F.entry_int_rmul (F.args_int_rmul_2 _ _) (int_rmul_tuple k t l its.toArray n dd sl)
      ⟨ho, rfl, ⟨_, ho, rfl⟩, call_meets F.slot_tuple_mul ⟨_, ho, rfl⟩ F.entry_tuple_mul (F.args_tuple_mul_2 _ _) (tuple_mulS l its.toArray n dd sl k t c0 c1) ⟨ho, ?_⟩⟩)
  exact ⟨.ref l, H, I, rfl, q⟩
/-- any number of times, as long as it fits -/
def rRepL (K : PySem.W.Frag) : R2 := fun x y H Q => ∃ l k xs, x = .ref l ∧ y = .int k ∧ SqT K H l xs ∧ xs ≠ [] ∧ 2 ≤ k ∧ k.toNat * xs.length ≤ 16777216 ∧ ∀ p, H p = none → Q (.ref p) (upd H p (.tup (List.replicate k.toNat xs).flatten))
theorem op_repL : OpR X (binaryOp .Mult) (rRepL X.K) := by
  intro pins s σ H x y v u Q I rx ry h
  obtain ⟨l, k, xs, rfl, rfl, hT, hne, h1, hz, q⟩ := h
  cases rx
  obtain ⟨t, rfl⟩ := ry
  obtain ⟨its, r, ⟨⟨cls, dd, data, sl⟩, ho, hc, n, hd⟩, hs⟩ := I.tuple hT
  simp only at hc hd
  subst hc hd
  have hle : its.length = xs.length := r.length.symm
  have hp : 0 < xs.length := List.length_pos_iff.mpr hne
  have hn : its ≠ [] := fun e => hne (by
    rw [e] at hle
    exact List.eq_nil_of_length_eq_zero hle.symm)
  have hi : its.toArray.isEmpty = false := by
    cases its with
    | nil => exact absurd rfl hn
    | cons a b => rfl
  have hsz0 : its.toArray.size = xs.length := by rw [List.size_toArray, hle]
  have hkz : k.toNat ≤ 16777216 := Nat.le_trans (Nat.le_mul_of_pos_right _ hp) hz
  have hm : ((its.toArray.size : Nat) : Int) * k ≤ 16777216 := by
    rw [hsz0]
    have e : k = (k.toNat : Int) := by omega
    rw [e, ← Int.natCast_mul, Nat.mul_comm]
    omega
  have flen : (List.replicate k.toNat its).flatten.length ≤ sizeLine := by
    rw [PyProof.Rows.lm_len_rep_flat, hle, sizeLine_eq]
    exact hz
  have c0 : (decide (k < -(2 ^ 63)) || decide (k ≥ 2 ^ 63)) = false := by
    rw [decide_eq_false (by omega), decide_eq_false (by omega)] <;> rfl
  have c1 : (its.toArray.isEmpty || k == 1) = false := by
    rw [hi, Bool.false_or]
    exact beq_eq_false_iff_ne.mpr (by omega)
  have c2 : (decide (k ≤ 0) || its.toArray.isEmpty) = false := by
    rw [hi, Bool.or_false]
    exact decide_eq_false (by omega)
  have c4 : Builtin.Tuple.tupleTooMany (((its.toArray.size : Nat) : Int) * k) = false := by
    unfold Builtin.Tuple.tupleTooMany
    rw [sizeLine_eq]
    exact decide_eq_false (by omega)
  refine wpAny_binaryOp_repeat_ref (T := "tuple") (U := "int") (by decide) ⟨_, ho, rfl⟩ (fun s' => typeIs_int s' k t) noFill_tuple_mul F.fills_int_mul F.slot_int_rmul repeat_tuple F.slot_int_index.lookup
    (call_meets F.slot_int_rmul (typeIs_int s k t) F.entry_int_rmul (F.args_int_rmul_2 _ _) (int_rmul_tuple k t l its.toArray n dd sl)
      ⟨ho, rfl, ⟨_, ho, rfl⟩, call_meets F.slot_tuple_mul ⟨_, ho, rfl⟩ F.entry_tuple_mul (F.args_tuple_mul_2 _ _) (tuple_mulW l its.toArray n dd sl k t c0 c1 c2 (by omega) c4 (by rw [size_rep, List.size_toArray]; exact flen)) ⟨ho, ?_⟩⟩)
  rw [size_rep]
  refine ⟨.ref s.heap.objs.size, _, I.laid (t' := s.toks) (o := .tup (List.replicate k.toNat xs).flatten) (fun b ob q => Heap.get?_push_of_some _ q) (Nat.le_refl _) ?_, rfl, q _ (I.hok.fresh (Nat.le_refl _))⟩
  exact ⟨by rw [PyProof.Rows.lm_len_rep_flat, sizeLine_eq]; exact hz, _, r.rep k.toNat, IsTup.new _ _⟩
end
end MC
set_option Elab.async false
set_option linter.all false
set_option maxRecDepth 100000
set_option maxHeartbeats 4000000
namespace MC
open PySem PySem.Spec L2
open PyProof.Rows (b2i)

/-! ### the single operations -/
def fl (x : PV) : Option OV := some (false, x)
def when (c : Bool) (x : Option OV) : Option OV := if c = true then x else none
theorem when_some {c : Bool} {x : Option OV} {r : OV} (h : when c x = some r) : c = true ∧ x = some r := by
  unfold when at h
  by_cases e : c = true
  · rw [if_pos e] at h; exact ⟨e, h⟩
  · rw [if_neg e] at h; cases h
def fits (n : Nat) : Bool := decide (n ≤ sizeLine)

def addP : PV → PV → Option OV
  | .int i, .int j => fl (.int (i + j))
  | .int i, .bl b => fl (.int (i + b2i b))
  | .str a, .str b => when (fits (a.length + b.length)) (fl (.str (a ++ b)))
  | .lst a, .lst b => when (fits (a.length + b.length)) (some (true, .lst (a ++ b)))
  | .tup a, .tup b => when (fits (a.length + b.length)) (fl (.tup (a ++ b)))
  | _, _ => none
def subP : PV → PV → Option OV
  | .int i, .int j => fl (.int (i - j))
  | _, _ => none
def mulOk (i j : Int) : Bool := decide (-(2 ^ 64) < i ∧ i < 2 ^ 64) || decide (-(2 ^ 64) < j ∧ j < 2 ^ 64) || decide (i.natAbs.log2 + j.natAbs.log2 < 1000000)
def strTimes (x : Str) (n : Int) : Str := ⟨((List.replicate n.toNat x.cps.toList).flatten).toArray⟩
def mulP : PV → PV → Option OV
  | .int i, .int j => when (mulOk i j) (fl (.int (i * j)))
  | .lst a, .int k => when (decide (-(2 ^ 63) ≤ k ∧ k < 2 ^ 63) && fits (a.length * k.toNat)) (some (true, .lst (List.replicate k.toNat a).flatten))
  | .tup a, .int k => if (a.isEmpty || k == 1) = true then when (decide (-(2 ^ 63) ≤ k ∧ k < 2 ^ 63)) (fl (.tup a)) else when (decide (2 ≤ k ∧ k.toNat * a.length ≤ 16777216)) (fl (.tup (List.replicate k.toNat a).flatten))
  | .str a, .int k => when (decide (-(2 ^ 30) ≤ k ∧ k < 2 ^ 30) && fits (a.length * k.toNat)) (fl (.str (strTimes a k)))
  | _, _ => none
def divOk (j : Int) : Bool := decide (j ≠ 0 ∧ j.natAbs < 1073741824) || decide (0 < j ∧ j.natAbs.log2 < 9000)
def fdivP : PV → PV → Option OV
  | .int i, .int j => when (divOk j) (fl (.int (i.fdiv j)))
  | _, _ => none
def modP : PV → PV → Option OV
  | .int i, .int j => when (decide (j ≠ 0)) (fl (.int (i.fmod j)))
  | _, _ => none
def powOk (i j : Int) : Bool := decide (0 ≤ j ∧ j ≤ 1000000 ∧ i.natAbs < 2 ^ 64)
def powP : PV → PV → Option OV
  | .int i, .int j => when (powOk i j) (fl (.int (i ^ j.toNat)))
  | _, _ => none
def shlP : PV → PV → Option OV
  | .int i, .int j => when (powOk i j) (fl (.int (i * 2 ^ j.toNat)))
  | _, _ => none
def shrP : PV → PV → Option OV
  | .int i, .int j => when (decide (0 ≤ j)) (fl (.int (i / 2 ^ j.toNat)))
  | _, _ => none
def bandP : PV → PV → Option OV
  | .int i, .int j => fl (.int (Builtin.bitAnd i j))
  | _, _ => none
def borP : PV → PV → Option OV
  | .int i, .int j => fl (.int (Builtin.bitOr i j))
  | _, _ => none
def bxorP : PV → PV → Option OV
  | .int i, .int j => fl (.int (Builtin.bitXor i j))
  | _, _ => none
def negP : PV → Option OV
  | .int i => fl (.int (-i))
  | _ => none

section
variable {X : Cx}
theorem opd_int {K : PySem.W.Frag} {Hf H : Hp} {v : V} {i : Int} (h : Opd K Hf H v (.int i)) : v = .int i := by unfold Opd Rep at h; exact h
theorem opd_str {K : PySem.W.Frag} {Hf H : Hp} {v : V} {i : Str} (h : Opd K Hf H v (.str i)) : v = .str i := by unfold Opd Rep at h; exact h
theorem opd_bl {K : PySem.W.Frag} {Hf H : Hp} {v : V} {i : Bool} (h : Opd K Hf H v (.bl i)) : v = .bl i := by unfold Opd Rep at h; exact h
theorem opd_non {K : PySem.W.Frag} {Hf H : Hp} {v : V} (h : Opd K Hf H v .non) : v = .non := by unfold Opd Rep at h; exact h
theorem opd_lst {K : PySem.W.Frag} {Hf H : Hp} {v : V} {xs : List PV} (h : Opd K Hf H v (.lst xs)) : ∃ a vs, v = .ref a ∧ H a = some (.lst vs) ∧ Reps K Hf vs xs := h
theorem opd_tup {K : PySem.W.Frag} {Hf H : Hp} {v : V} {xs : List PV} (s : Bel Hf H) (h : Opd K Hf H v (.tup xs)) : ∃ a vs, v = .ref a ∧ H a = some (.tup vs) ∧ Hf a = some (.tup vs) ∧ Reps K Hf vs xs := by
  have h : Rep K Hf v (.tup xs) := h
  unfold Rep at h
  obtain ⟨a, vs, e, h1, h2⟩ := h
  exact ⟨a, vs, e, s.tup h1, h1, h2⟩
theorem rep_int {K : PySem.W.Frag} {H : Hp} {i : Int} : Rep K H (.int i) (.int i) := by unfold Rep; rfl
theorem rep_str {K : PySem.W.Frag} {H : Hp} {i : Str} : Rep K H (.str i) (.str i) := by unfold Rep; rfl
theorem rep_bl {K : PySem.W.Frag} {H : Hp} {i : Bool} : Rep K H (.bl i) (.bl i) := by unfold Rep; rfl
theorem rep_non {K : PySem.W.Frag} {H : Hp} : Rep K H .non .non := by unfold Rep; rfl

/-- an operation on ints, from its rule -/
theorem intOp {f : Value → Value → Sem Value} {g : PV → PV → Option OV} {C : Int → Int → Prop} {k : Int → Int → V} {k' : Int → Int → PV} (ho : OpR X f (rI C k))
    (hg : ∀ x y r, g x y = some r → ∃ i j, x = .int i ∧ y = .int j ∧ C i j ∧ r = (false, k' i j)) (hk : ∀ (K : PySem.W.Frag) (H : Hp) i j, Rep K H (k i j) (k' i j)) : OpP X f g := by
  intro pins s σ H x' y' v u Q I rx ry ⟨Hf, x, y, r, sb, ox, oy, e, q⟩
  obtain ⟨i, j, rfl, rfl, c, rfl⟩ := hg x y r e
  exact ho pins s σ H x' y' v u Q I rx ry ⟨i, j, opd_int ox, opd_int oy, c, q _ _ (.same (hk _ _ i j))⟩
theorem intOp0 {f : Value → Value → Sem Value} {g : PV → PV → Option OV} {k : Int → Int → V} {k' : Int → Int → PV} (ho : OpR X f (rI0 k))
    (hg : ∀ x y r, g x y = some r → ∃ i j, x = .int i ∧ y = .int j ∧ r = (false, k' i j)) (hk : ∀ (K : PySem.W.Frag) (H : Hp) i j, Rep K H (k i j) (k' i j)) : OpP X f g := by
  intro pins s σ H x' y' v u Q I rx ry ⟨Hf, x, y, r, sb, ox, oy, e, q⟩
  obtain ⟨i, j, rfl, rfl, rfl⟩ := hg x y r e
  exact ho pins s σ H x' y' v u Q I rx ry ⟨i, j, opd_int ox, opd_int oy, q _ _ (.same (hk _ _ i j))⟩
/-- two rules by cases -/
theorem OpP.or {f : Value → Value → Sem Value} {g1 g2 g : PV → PV → Option OV} (h1 : OpP X f g1) (h2 : OpP X f g2) (h : ∀ x y r, g x y = some r → g1 x y = some r ∨ g2 x y = some r) : OpP X f g := by
  intro pins s σ H x' y' v u Q I rx ry ⟨Hf, x, y, r, sb, ox, oy, e, q⟩
  rcases h x y r e with e | e
  · exact h1 pins s σ H x' y' v u Q I rx ry ⟨Hf, x, y, r, sb, ox, oy, e, q⟩
  · exact h2 pins s σ H x' y' v u Q I rx ry ⟨Hf, x, y, r, sb, ox, oy, e, q⟩

theorem addAll {f : Value → Value → Sem Value} (h1 : OpR X f (rI0 fun i j => .int (i + j))) (h2 : OpR X f (fun x y H Q => ∃ i k, x = .int i ∧ y = .bl k ∧ Q (.int (i + b2i k)) H))
    (h3 : OpR X f (fun x y H Q => ∃ i j, x = .str i ∧ y = .str j ∧ i.length + j.length ≤ sizeLine ∧ Q (.str (i ++ j)) H)) (h4 : OpR X f rCat) (h5 : OpR X f (rCatA X.K)) : OpP X f addP := by
  intro pins s σ H x' y' v u Q I rx ry ⟨Hf, x, y, r, sb, ox, oy, e, q⟩
  unfold addP at e
  split at e
  · cases e; exact h1 pins s σ H x' y' v u Q I rx ry ⟨_, _, opd_int ox, opd_int oy, q _ _ (.same rep_int)⟩
  · cases e; exact h2 pins s σ H x' y' v u Q I rx ry ⟨_, _, opd_int ox, opd_bl oy, q _ _ (.same rep_int)⟩
  · obtain ⟨c, e⟩ := when_some e
    cases e
    exact h3 pins s σ H x' y' v u Q I rx ry ⟨_, _, opd_str ox, opd_str oy, of_decide_eq_true c, q _ _ (.same rep_str)⟩
  · obtain ⟨c, e⟩ := when_some e
    cases e
    obtain ⟨a, vs, ea, ha, ra⟩ := opd_lst ox
    obtain ⟨b, ws, eb, hb, rb⟩ := opd_lst oy
    have hl : vs.length + ws.length ≤ sizeLine := by rw [ra.length, rb.length]; exact of_decide_eq_true c
    exact h4 pins s σ H x' y' v u Q I rx ry ⟨a, b, vs, ws, ea, eb, ha, hb, hl, fun p np => q _ _ (.lst np (ra.append rb))⟩
  · obtain ⟨c, e⟩ := when_some e
    cases e
    obtain ⟨a, vs, ea, ha, ha', ra⟩ := opd_tup sb ox
    obtain ⟨b, ws, eb, hb, hb', rb⟩ := opd_tup sb oy
    have hl : vs.length + ws.length ≤ sizeLine := by rw [ra.length, rb.length]; exact of_decide_eq_true c
    refine h5 pins s σ H x' y' v u Q I rx ry ⟨a, b, vs, ws, ea, eb, SqT.of ha, SqT.of hb, hl, fun z => ?_, fun _ z => ?_, fun _ _ p np => q _ _ (.tup np (ra.append rb))⟩
    · subst z
      refine q _ _ (.same ?_)
      unfold Rep
      exact ⟨b, ws, rfl, hb', by simpa using ra.append rb⟩
    · subst z
      refine q _ _ (.same ?_)
      unfold Rep
      exact ⟨a, vs, rfl, ha', by simpa using ra.append rb⟩
  · cases e
theorem p_add : OpP X (binaryOp .Add) addP := addAll op_add op_add_ib op_add_str op_cat op_catA
theorem p_sub : OpP X (binaryOp .Sub) subP := intOp0 (k' := fun i j => .int (i - j)) op_sub (fun x y r e => by unfold subP at e; split at e <;> first | (cases e; exact ⟨_, _, rfl, rfl, rfl⟩) | cases e) fun _ _ _ _ => rep_int
theorem p_fdiv : OpP X (binaryOp .FloorDiv) fdivP := by
  intro pins s σ H x' y' v u Q I rx ry ⟨Hf, x, y, r, sb, ox, oy, e, q⟩
  unfold fdivP at e
  split at e
  · obtain ⟨c, e⟩ := when_some e
    cases e
    rename_i i j
    rcases Bool.or_eq_true_iff.mp c with c | c
    · have c := of_decide_eq_true c
      exact op_fdivN pins s σ H x' y' v u Q I rx ry ⟨_, _, opd_int ox, opd_int oy, c, q _ _ (.same rep_int)⟩
    · have c := of_decide_eq_true c
      refine op_fdivW pins s σ H x' y' v u Q I rx ry ⟨_, _, opd_int ox, opd_int oy, c, q _ _ (.same ?_)⟩
      rw [Int.fdiv_eq_ediv_of_nonneg i (Int.le_of_lt c.1)]; exact rep_int
  · cases e
theorem p_mod : OpP X (binaryOp .Mod) modP := intOp (k' := fun i j => .int (i.fmod j)) op_modN (fun x y r e => by
  unfold modP at e
  split at e
  · obtain ⟨c, e⟩ := when_some e
    have c := of_decide_eq_true c
    cases e; exact ⟨_, _, rfl, rfl, c, rfl⟩
  · cases e) fun _ _ _ _ => rep_int
theorem p_pow : OpP X (binaryOp .Pow) powP := intOp (k' := fun i j => .int (i ^ j.toNat)) op_pow (fun x y r e => by
  unfold powP at e
  split at e
  · obtain ⟨c, e⟩ := when_some e
    have c := of_decide_eq_true c
    cases e; exact ⟨_, _, rfl, rfl, c, rfl⟩
  · cases e) fun _ _ _ _ => rep_int
theorem p_shl : OpP X (binaryOp .LShift) shlP := intOp (k' := fun i j => .int (i * 2 ^ j.toNat)) op_shl (fun x y r e => by
  unfold shlP at e
  split at e
  · obtain ⟨c, e⟩ := when_some e
    have c := of_decide_eq_true c
    cases e; exact ⟨_, _, rfl, rfl, c, rfl⟩
  · cases e) fun _ _ _ _ => rep_int
theorem p_shr : OpP X (binaryOp .RShift) shrP := intOp (k' := fun i j => .int (i / 2 ^ j.toNat)) op_shr (fun x y r e => by
  unfold shrP at e
  split at e
  · obtain ⟨c, e⟩ := when_some e
    have c := of_decide_eq_true c
    cases e; exact ⟨_, _, rfl, rfl, c, rfl⟩
  · cases e) fun _ _ _ _ => rep_int
theorem p_band : OpP X (binaryOp .BitAnd) bandP := intOp0 (k' := fun i j => .int (Builtin.bitAnd i j)) op_and (fun x y r e => by unfold bandP at e; split at e <;> first | (cases e; exact ⟨_, _, rfl, rfl, rfl⟩) | cases e) fun _ _ _ _ => rep_int
theorem p_bor : OpP X (binaryOp .BitOr) borP := intOp0 (k' := fun i j => .int (Builtin.bitOr i j)) op_or (fun x y r e => by unfold borP at e; split at e <;> first | (cases e; exact ⟨_, _, rfl, rfl, rfl⟩) | cases e) fun _ _ _ _ => rep_int
theorem p_bxor : OpP X (binaryOp .BitXor) bxorP := intOp0 (k' := fun i j => .int (Builtin.bitXor i j)) op_xor (fun x y r e => by unfold bxorP at e; split at e <;> first | (cases e; exact ⟨_, _, rfl, rfl, rfl⟩) | cases e) fun _ _ _ _ => rep_int
theorem p_neg : UnP X (unaryOp .USub) negP := by
  intro pins s σ H x' v Q I rx ⟨Hf, x, r, sb, ox, e, q⟩
  unfold negP at e
  split at e
  · cases e; exact un_neg pins s σ H x' v Q I rx ⟨_, opd_int ox, q _ _ (.same rep_int)⟩
  · cases e
theorem str_times (x : Str) (n : Int) : Txt.mul x n = strTimes x n := by
  unfold Txt.mul strTimes
  have fo : ∀ (k : Nat) (acc : Array Nat), (List.replicate k x.cps).foldl (· ++ ·) acc = acc ++ ((List.replicate k x.cps.toList).flatten).toArray := by
    intro k
    induction k with
    | zero => intro acc; simp
    | succ k ih => intro acc; rw [List.replicate_succ, List.foldl_cons, ih]; apply Array.toList_inj.mp; simp [List.replicate_succ]
  split
  · rename_i h
    have : n.toNat = 0 := by omega
    rw [this]; rfl
  · rename_i h
    split
    · rename_i h2
      rcases Bool.or_eq_true_iff.mp h2 with h2 | h2
      · have h2 : n = 1 := by simpa using h2
        subst h2
        apply Str.ext'
        simp
      · have h2 : x.length = 0 := by simpa using h2
        have e : x.cps.toList = [] := by
          have : x.cps.size = 0 := h2
          simpa using this
        rw [e]
        apply Str.ext'
        have : x.cps = #[] := by
          have := congrArg List.toArray e
          simpa using this
        rw [this]; simp
    · rw [fo]; simp
theorem p_mul : OpP X (binaryOp .Mult) mulP := by
  intro pins s σ H x' y' v u Q I rx ry ⟨Hf, x, y, r, sb, ox, oy, e, q⟩
  unfold mulP at e
  split at e
  · obtain ⟨c, e⟩ := when_some e
    cases e
    rcases Bool.or_eq_true_iff.mp c with c | c
    · refine op_mul pins s σ H x' y' v u Q I rx ry ⟨_, _, opd_int ox, opd_int oy, ?_, q _ _ (.same rep_int)⟩
      rcases Bool.or_eq_true_iff.mp c with c | c
      · exact .inl (of_decide_eq_true c)
      · exact .inr (of_decide_eq_true c)
    · have c := of_decide_eq_true c
      exact op_mulW pins s σ H x' y' v u Q I rx ry ⟨_, _, opd_int ox, opd_int oy, c, q _ _ (.same rep_int)⟩
  · obtain ⟨c, e⟩ := when_some e
    cases e
    obtain ⟨c1, c2⟩ := Bool.and_eq_true_iff.mp c
    obtain ⟨a, vs, ea, ha, ra⟩ := opd_lst ox
    have c1 := of_decide_eq_true c1
    exact op_rep pins s σ H x' y' v u Q I rx ry ⟨a, _, vs, ea, opd_int oy, ha, c1.1, c1.2, by rw [ra.length]; exact of_decide_eq_true c2, fun p np => q _ _ (.lst np (ra.rep _))⟩
  · rename_i xs k
    obtain ⟨a, vs, ea, ha, ha', ra⟩ := opd_tup sb ox
    have hl := ra.length
    split at e
    · rename_i c0
      obtain ⟨c, e⟩ := when_some e
      cases e
      have c := of_decide_eq_true c
      refine op_repS pins s σ H x' y' v u Q I rx ry ⟨a, _, vs, ea, opd_int oy, SqT.of ha, ?_, c.1, c.2, ?_⟩
      · rcases Bool.or_eq_true_iff.mp c0 with z | z
        · left
          have : xs = [] := by simpa using z
          subst this
          exact List.eq_nil_of_length_eq_zero hl
        · right; exact eq_of_beq z
      · rw [← ea]
        exact q _ _ (.same (show Rep _ _ _ _ from ox))
    · rename_i c0
      obtain ⟨c, e⟩ := when_some e
      cases e
      have c2 := of_decide_eq_true c
      refine op_repL pins s σ H x' y' v u Q I rx ry ⟨a, _, vs, ea, opd_int oy, SqT.of ha, fun z => ?_, c2.1, by rw [hl]; exact c2.2, fun p np => q _ _ (.tup np (ra.rep _))⟩
      subst z
      cases xs with
      | nil => exact c0 rfl
      | cons _ _ => cases hl
  · rename_i a k
    obtain ⟨c, e⟩ := when_some e
    cases e
    obtain ⟨c1, c2⟩ := Bool.and_eq_true_iff.mp c
    have c1 := of_decide_eq_true c1
    have c2 := of_decide_eq_true c2
    have ex := opd_str ox
    have ey := opd_int oy
    subst ex; subst ey
    obtain ⟨t, rfl⟩ := rx
    obtain ⟨t', rfl⟩ := ry
    have hs : sizeLine = 16777216 := sizeLine_eq
    refine SB.mul ⟨?_, fun h1 h2 h3 => ?_, fun h1 h2 => ?_⟩ fun t'' k' => ?_
    · rw [Bool.or_eq_false_iff]; exact ⟨decide_eq_false (by omega), decide_eq_false (by omega)⟩
    · have hk : 0 < k := by omega
      have h4 : (a.length : Int) * k ≤ sizeLine := by
        have : (a.length : Int) * k = ((a.length * k.toNat : Nat) : Int) := by rw [Int.natCast_mul, Int.toNat_of_nonneg (Int.le_of_lt hk)]
        rw [this]; exact_mod_cast c2
      have h5 : ((2 ^ 63 - 1) / k) * k ≥ (2 ^ 63 - 1) - (k - 1) := by
        have := Int.emod_lt_of_pos (2 ^ 63 - 1) hk
        have h6 := Int.mul_ediv_add_emod (2 ^ 63 - 1) k
        rw [Int.mul_comm]; omega
      have h7 : (((2 ^ 63 - 1) / k) + 1) * k ≤ (a.length : Int) * k := Int.mul_le_mul_of_nonneg_right (by omega) (Int.le_of_lt hk)
      rw [Int.add_mul] at h7
      omega
    · unfold Builtin.Str.tooLong
      simpa using c2
    · refine ⟨.str (strTimes a k), H, I.tok _, ⟨t'', by rw [str_times]⟩, q _ _ (.same rep_str)⟩
  · cases e
end
end MC
set_option Elab.async false
set_option linter.all false
set_option maxRecDepth 100000
set_option maxHeartbeats 4000000
namespace MC
open PySem PySem.Spec L2
open PyProof.Rows (b2i)

/-! ### comparing -/
mutual
def toD : PV → PyData
  | .non => .none
  | .bl b => .bool b
  | .int i => .int i
  | .str x => .str x
  | .tup xs => .tuple (toDs xs)
  | .lst xs => .list (toDs xs)
  | .dic _ _ => .dict []
  | .sq true xs => .list (toDs xs)
  | .sq false xs => .tuple (toDs xs)
def toDs : List PV → List PyData
  | [] => []
  | x :: xs => toD x :: toDs xs
end
section
variable {K : PySem.W.Frag} {H Hf : Hp}
mutual
theorem Rep.dp : ∀ {x : PV} {v : V}, Rep K H v x → (toD x).canLay0 = true → Dp K H v (toD x)
  | .non, _, h, _ => by unfold Rep at h; subst h; exact .non
  | .bl b, _, h, _ => by unfold Rep at h; subst h; exact .bl b
  | .int b, _, h, _ => by unfold Rep at h; subst h; exact .int b
  | .str b, _, h, _ => by unfold Rep at h; subst h; exact .str b
  | .tup xs, _, h, c => by
    unfold Rep at h
    obtain ⟨a, vs, e, h1, h2⟩ := h
    subst e
    exact .tup (SqT.of h1) (Reps.dp h2 (by simpa [toD, PyData.canLay0] using c))
  | .lst xs, _, h, c => by
    unfold Rep at h
    obtain ⟨a, vs, e, h1, h2⟩ := h
    subst e
    exact .lst (SqL.of h1) (Reps.dp h2 (by simpa [toD, PyData.canLay0] using c))
  | .dic _ _, _, _, c => by simp [toD, PyData.canLay0] at c
  | .sq true xs, _, h, c => by
    unfold Rep at h
    obtain ⟨a, vs, e, h1, h2⟩ := h
    subst e
    exact .lst h1 (Reps.dp h2 (by simpa [toD, PyData.canLay0] using c))
  | .sq false xs, _, h, c => by
    unfold Rep at h
    obtain ⟨a, vs, e, h1, h2⟩ := h
    subst e
    exact .tup h1 (Reps.dp h2 (by simpa [toD, PyData.canLay0] using c))
theorem Reps.dp : ∀ {xs : List PV} {vs : List V}, Reps K H vs xs → PyData.canLayAll0 (toDs xs) = true → DpAll K H vs (toDs xs)
  | [], _, h, _ => by rw [h.nil_inv]; exact .nil
  | x :: xs, _, h, c => by
    obtain ⟨v, r, e, h1, h2⟩ := h.cons_inv
    subst e
    have c : ((toD x).canLay0 && PyData.canLayAll0 (toDs xs)) = true := c
    obtain ⟨c1, c2⟩ := Bool.and_eq_true_iff.mp c
    exact .cons (Rep.dp h1 c1) (Reps.dp h2 c2)
end
theorem Opd.dp {x : PV} {v : V} (s : Bel Hf H) (h : Opd K Hf H v x) (c : (toD x).canLay0 = true) : Dp K H v (toD x) := by
  cases x with
  | lst xs =>
    obtain ⟨a, vs, e, h1, h2⟩ := h
    subst e
    exact .lst (SqL.of h1) (Reps.dp (h2.sub s) (by simpa [toD, PyData.canLay0] using c))
  | dic _ _ => simp [toD, PyData.canLay0] at c
  | _ => exact Rep.dp (Rep.sub s h) c
end
def eqPV (x y : PV) : Bool := PyData.eqv (toD x) (toD y)
def shapedP (x : PV) : Bool := SeqAt.shaped (toD x)
def eqP (x y : PV) : Option OV := when (shapedP x && shapedP y) (fl (.bl (eqPV x y)))
def neP (x y : PV) : Option OV := when (shapedP x && shapedP y) (fl (.bl (!eqPV x y)))
def intsOf : List PV → Option (List Int)
  | [] => some []
  | .int i :: r => (intsOf r).map (i :: ·)
  | _ :: _ => none
theorem intsOf_some : ∀ {xs : List PV} {ns : List Int}, intsOf xs = some ns → xs = ns.map PV.int
  | [], _, h => by cases h; rfl
  | .int i :: r, ns, h => by
    obtain ⟨ms, e, rfl⟩ := Option.map_eq_some_iff.mp h
    rw [intsOf_some e]; rfl
  | .non :: _, _, h => nomatch h
  | .bl _ :: _, _, h => nomatch h
  | .str _ :: _, _, h => nomatch h
  | .tup _ :: _, _, h => nomatch h
  | .lst _ :: _, _, h => nomatch h
  | .dic _ _ :: _, _, h => nomatch h
  | .sq _ _ :: _, _, h => nomatch h
/-- tuples of alike data, in order -/
def dOk (x y : PV) : Bool := shapedP x && shapedP y && PySem.W.alike (toD x) (toD y)
def ltP : PV → PV → Option OV
  | .int i, .int j => fl (.bl (decide (i < j)))
  | .str a, .str b => fl (.bl (decide (a.cps.toList < b.cps.toList)))
  | .tup xs, .tup ys => when (dOk (.tup xs) (.tup ys)) (fl (.bl (PySem.W.dataLt (toD (.tup xs)) (toD (.tup ys)))))
  | _, _ => none
def leP : PV → PV → Option OV
  | .int i, .int j => fl (.bl (decide (i ≤ j)))
  | .str a, .str b => fl (.bl (!decide (b.cps.toList < a.cps.toList)))
  | .tup xs, .tup ys => when (dOk (.tup xs) (.tup ys)) (fl (.bl (!PySem.W.dataLt (toD (.tup ys)) (toD (.tup xs)))))
  | _, _ => none
def gtP : PV → PV → Option OV
  | .int i, .int j => fl (.bl (decide (j < i)))
  | .str a, .str b => fl (.bl (decide (b.cps.toList < a.cps.toList)))
  | .tup xs, .tup ys => when (dOk (.tup xs) (.tup ys)) (fl (.bl (PySem.W.dataLt (toD (.tup ys)) (toD (.tup xs)))))
  | _, _ => none
def geP : PV → PV → Option OV
  | .int i, .int j => fl (.bl (decide (j ≤ i)))
  | .str a, .str b => fl (.bl (!decide (a.cps.toList < b.cps.toList)))
  | .tup xs, .tup ys => when (dOk (.tup xs) (.tup ys)) (fl (.bl (!PySem.W.dataLt (toD (.tup xs)) (toD (.tup ys)))))
  | _, _ => none
def PV.isNon : PV → Bool
  | .non => true
  | _ => false
/-- is: with None, of two bools -/
def isPV : PV → PV → Option Bool
  | .non, .non => some true
  | _, .non => some false
  | .bl a, .bl b => some (decide (a = b))
  | _, _ => none
def isP (x y : PV) : Option OV := (isPV x y).map fun b => (false, .bl b)
def isNotP (x y : PV) : Option OV := (isPV x y).map fun b => (false, .bl (!b))

/-! keys -/
def keyOf1 : PV → Option Key
  | .int i => some (.inl i)
  | .str x => some (.inr x)
  | _ => none
def keysOf : List PV → Option (List Key)
  | [] => some []
  | x :: r => (keyOf1 x).bind fun k => (keysOf r).map (k :: ·)
def keyOf : PV → Option (Key ⊕ List Key)
  | .tup xs => (keysOf xs).map .inr
  | x => (keyOf1 x).map .inl
def keyEq (x y : PV) : Bool := match keyOf x, keyOf y with
  | some a, some b => decide (a = b)
  | _, _ => false
theorem keyOf1_kP (k : Key) : keyOf1 (kP k) = some k := by cases k <;> rfl
theorem keysOf_kP : ∀ l : List Key, keysOf (l.map kP) = some l
  | [] => rfl
  | k :: l => by simp [keysOf, keyOf1_kP, keysOf_kP l]
theorem keyOf_kP (k : Key) : keyOf (kP k) = some (.inl k) := by cases k <;> rfl
theorem keyOf_tup (l : List Key) : keyOf (.tup (l.map kP)) = some (.inr l) := by simp [keyOf, keysOf_kP]
theorem keyOf1_some {x : PV} {k : Key} (h : keyOf1 x = some k) : x = kP k := by
  cases x with
  | int i => cases h; rfl
  | str i => cases h; rfl
  | _ => cases h
theorem keysOf_some : ∀ {xs : List PV} {l : List Key}, keysOf xs = some l → xs = l.map kP
  | [], _, h => by cases h; rfl
  | x :: r, l, h => by
    obtain ⟨k, e, h⟩ := Option.bind_eq_some_iff.mp h
    obtain ⟨m, e2, rfl⟩ := Option.map_eq_some_iff.mp h
    rw [keyOf1_some e, keysOf_some e2]; rfl
theorem keyEq_kP (a b : Key) : keyEq (kP a) (kP b) = decide (a = b) := by
  unfold keyEq; rw [keyOf_kP, keyOf_kP]; simp
theorem keyEq_tup (a b : List Key) : keyEq (.tup (a.map kP)) (.tup (b.map kP)) = decide (a = b) := by
  unfold keyEq; rw [keyOf_tup, keyOf_tup]; simp
/-- the place of a key -/
def dFind (ks : List PV) (k : PV) : Option Nat := ks.findIdx? fun x => keyEq x k
def dGet (ks vs : List PV) (k : PV) : Option PV := (dFind ks k).bind fun i => vs[i]?
theorem valV_find {κ : Type} [DecidableEq κ] (k : κ) : ∀ (kk : List κ) (ws : List V), kk.length = ws.length → valV (kk.zip ws) k = (kk.findIdx? fun x => decide (x = k)).bind fun i => ws[i]?
  | [], _, _ => by simp [valV]
  | _ :: _, [], h => by simp at h
  | a :: kk, w :: ws, h => by
    have ih := valV_find k kk ws (by simpa using h)
    rw [List.zip_cons_cons, List.findIdx?_cons]
    by_cases e : a = k
    · rw [valV_pos (p := (a, w)) e]; simp [e]
    · rw [valV_neg (p := (a, w)) e, ih]
      simp only [e, decide_false, Bool.false_eq_true, if_false]
      cases (kk.findIdx? fun x => decide (x = k)) <;> simp
theorem findIdx_map {α β : Type} (f : α → β) (p : β → Bool) (q : α → Bool) (h : ∀ a, p (f a) = q a) : ∀ l : List α, (l.map f).findIdx? p = l.findIdx? q
  | [] => rfl
  | a :: l => by rw [List.map_cons, List.findIdx?_cons, List.findIdx?_cons, h a, findIdx_map f p q h l]
section
variable {K : PySem.W.Frag} {H Hf : Hp}
theorem Reps.keys : ∀ {l : List Key} {vs : List V}, Reps K H vs (l.map kP) → vs = l.map kV
  | [], _, h => h.nil_inv
  | k :: l, _, h => by
    obtain ⟨v, r, rfl, h1, h2⟩ := h.cons_inv
    rw [Reps.keys h2]
    cases k with
    | inl i => unfold kP Rep at h1; subst h1; rfl
    | inr i => unfold kP Rep at h1; subst h1; rfl
theorem Opd.key1 {v : V} {k : Key} (h : Opd K Hf H v (kP k)) : v = kV k := by
  cases k with
  | inl i => exact opd_int h
  | inr i => exact opd_str h
/-- the key's kind is the dict's -/
def kindOk : List PV → PV → Bool
  | [], k => (keyOf k).isSome
  | x :: _, k => match keyOf x, keyOf k with
    | some (.inl _), some (.inl _) => true
    | some (.inr _), some (.inr _) => true
    | _, _ => false
theorem kP_of {k : PV} {key : Key} (h : keyOf k = some (.inl key)) : k = kP key := by
  cases k with
  | int i => cases h; rfl
  | str i => cases h; rfl
  | tup xs => obtain ⟨l, _, e⟩ := Option.map_eq_some_iff.mp h; cases e
  | _ => cases h
theorem tup_of {k : PV} {l : List Key} (h : keyOf k = some (.inr l)) : k = .tup (l.map kP) := by
  cases k with
  | tup xs => obtain ⟨m, e2, e⟩ := Option.map_eq_some_iff.mp h; cases e; rw [keysOf_some e2]
  | _ => cases h
/-- a new dict asked for a tuple -/
def NoKeys (H : Hp) (a : Addr) (k' : V) : Prop := Rd H a (.dK []) ∧ ∃ b l, k' = .ref b ∧ H b = some (.tup (List.map kV l))
/-- what the dict holds at a key, as the layer says it -/
theorem dget_of (s : Bel Hf H) {d' k' : V} {ks vs : List PV} {k : PV} (hd : Opd K Hf H d' (.dic ks vs)) (hk : Opd K Hf H k' k) (hko : kindOk ks k = true) :
    ∃ a, d' = .ref a ∧ ((∃ r, DGet H a k' r ∧ (∀ w, r = some w → ∃ x, dGet ks vs k = some x ∧ Rep K Hf w x) ∧ (r = none → dGet ks vs k = none)) ∨ (NoKeys H a k' ∧ dGet ks vs k = none)) := by
  obtain ⟨a, ws, rfl, rw', h⟩ := hd
  refine ⟨a, rfl, ?_⟩
  have fin : ∀ (o : Option Nat), dFind ks k = o → (∀ w, (o.bind fun i => ws[i]?) = some w → ∃ x, dGet ks vs k = some x ∧ Rep K Hf w x) ∧ ((o.bind fun i => ws[i]?) = none → dGet ks vs k = none) := fun o e => by
    unfold dGet
    rw [e]
    refine ⟨fun w hw => ?_, fun hw => ?_⟩
    · obtain ⟨i, rfl, e2⟩ := Option.bind_eq_some_iff.mp hw
      obtain ⟨x, e3, hx⟩ := rw'.get' e2
      exact ⟨x, by simpa using e3, hx⟩
    · cases o with
      | none => rfl
      | some i =>
        have hw : ws[i]? = none := hw
        have : vs[i]? = none := by
          rw [List.getElem?_eq_none_iff] at hw ⊢
          rw [← rw'.length]; exact hw
        exact this
  rcases h with ⟨kk, hR, hl, rfl⟩ | ⟨kk, n, hR, hl, rfl⟩
  · cases ek : keyOf k with
    | none => cases kk <;> simp [kindOk, ek, keyOf_kP] at hko
    | some q =>
      cases q with
      | inl key =>
        have e := kP_of ek
        subst e
        have ek := hk.key1
        subst ek
        refine .inl ⟨_, .inl ⟨_, key, hR, rfl, rfl⟩, ?_⟩
        rw [valV_find key kk ws hl]
        exact fin _ (findIdx_map kP _ _ (fun x => keyEq_kP x key) kk)
      | inr l =>
        cases kk with
        | cons x _ => simp [kindOk, ek, keyOf_kP] at hko
        | nil =>
          have e := tup_of ek
          subst e
          obtain ⟨b, us, rfl, hb, hb', rb⟩ := opd_tup s hk
          have := rb.keys
          subst this
          exact .inr ⟨⟨hR, b, l, rfl, hb⟩, rfl⟩
  · cases kk with
    | nil => exact absurd rfl n
    | cons y kk =>
      cases ek : keyOf k with
      | none => simp [kindOk, ek, keyOf_tup] at hko
      | some q =>
        cases q with
        | inl key => simp [kindOk, ek, keyOf_tup] at hko
        | inr l =>
          have e := tup_of ek
          subst e
          obtain ⟨b, us, rfl, hb, hb', rb⟩ := opd_tup s hk
          have := rb.keys
          subst this
          refine .inl ⟨_, .inr ⟨_, l, b, hR, rfl, hb, rfl⟩, ?_⟩
          rw [valV_find l (y :: kk) ws hl]
          exact fin _ (findIdx_map (fun l : List Key => PV.tup (l.map kP)) (fun x => keyEq x (.tup (l.map kP))) (fun x => decide (x = l)) (fun x => keyEq_tup x l) (y :: kk))
end
section
variable {X : Cx} {pins : List (Addr × Obj)} {σ : Sl} {H : Hp} {s : Shared} {a b : Addr}
theorem empty_dict (I : L2.Inv X pins σ H s) (h : Rd H a (.dK [])) : (a == sysModules) = false ∧ s.heap.DictOfH (tupleKind (mixKind X.prog X.w)) a [] := by
  obtain ⟨_, hd, vs, rel, ⟨o, es, ep, h1, h2, h3, h4, h5, h6⟩⟩ := dk_rd I.hok h
  cases rel
  refine ⟨hd, o, es, ep, h1, h2, h3, ?_, fun x hx => (nomatch hx), List.nodup_nil⟩
  generalize es.toList = l at h5
  cases h5
  rfl
end

def inDict (ks vs : List PV) (k : PV) : Option OV := when (kindOk ks k) (fl (.bl (dGet ks vs k).isSome))
/-- == of flat values -/
def eqFlat : PV → PV → Bool
  | .non, .non => true
  | .bl a, .bl b => a == b
  | .bl a, .int b => (if a then 1 else 0) == b
  | .int a, .bl b => a == (if b then 1 else 0)
  | .int a, .int b => a == b
  | .str a, .str b => a == b
  | _, _ => false
def inFlat (x : PV) (xs : List PV) : Option Bool := if x.flat && xs.all PV.flat then some (xs.any fun y => eqFlat y x) else none
def inSeq (x : PV) (xs : List PV) : Option Bool := if shapedP x && shapedP (.lst xs) then some (xs.any fun y => eqPV y x) else none
/-- x in y -/
def inPV : PV → PV → Option Bool
  | x, .dic ks vs => if kindOk ks x then some (dGet ks vs x).isSome else none
  | .str ⟨⟨[c]⟩⟩, .str z => some (decide (c ∈ z.cps.toList))
  | .str a, .str z => some (!(Builtin.Str.occurrences z a 0 z.length 1).isEmpty)
  | x, .lst xs => inSeq x xs
  | x, .tup xs => inFlat x xs
  | x, .sq _ xs => inFlat x xs
  | _, _ => none
def inP (x y : PV) : Option OV := (inPV x y).map fun b => (false, .bl b)
def notInP (x y : PV) : Option OV := (inPV x y).map fun b => (false, .bl (!b))

section
variable {X : Cx} {K : PySem.W.Frag} {H Hf : Hp}
theorem eqFlat_of {x y : PV} {v w : V} (fx : x.flat = true) (fy : y.flat = true) (hx : Rep K H v x) (hy : Rep K H w y) : flatV v = true ∧ flatV w = true ∧ eqV v w = eqFlat x y := by
  cases x <;> first | (cases fx; done) | (cases y <;> first | (cases fy; done) | (unfold Rep at hx hy; subst hx; subst hy; exact ⟨rfl, rfl, rfl⟩))
theorem inFlat_of {x : PV} {v : V} (fx : x.flat = true) (hx : Rep K H v x) : ∀ {xs : List PV} {vs : List V}, Reps K H vs xs → xs.all PV.flat = true → vs.all flatV = true ∧ inV v vs = xs.any fun y => eqFlat y x
  | [], _, h, _ => by rw [h.nil_inv]; exact ⟨rfl, rfl⟩
  | y :: ys, _, h, f => by
    obtain ⟨w, r, rfl, h1, h2⟩ := h.cons_inv
    rw [List.all_cons, Bool.and_eq_true] at f
    obtain ⟨e1, e2⟩ := inFlat_of fx hx h2 f.2
    obtain ⟨f1, f2, f3⟩ := eqFlat_of f.1 fx h1 hx
    unfold inV at e2 ⊢
    rw [List.all_cons, f1, e1, List.any_cons, List.any_cons, e2, f3]
    exact ⟨rfl, rfl⟩
theorem any_toDs (x : PV) : ∀ xs : List PV, ((toDs xs).any fun z => PyData.eqv z (toD x)) = xs.any fun y => eqPV y x
  | [] => rfl
  | y :: ys => by
    have e : toDs (y :: ys) = toD y :: toDs ys := rfl
    rw [e, List.any_cons, List.any_cons, any_toDs x ys]; rfl
theorem shaped_can {x : PV} (h : shapedP x = true) : (toD x).canLay0 = true := SeqAt.canLay_of_shaped h
theorem p_eq (hu : X.A.units + 64 < cLine) : OpP X (compareOp .Eq) eqP := by
  intro pins s σ H x' y' v u Q I rx ry ⟨Hf, x, y, r, sb, ox, oy, e, q⟩
  obtain ⟨c, e⟩ := when_some e
  cases e
  obtain ⟨c1, c2⟩ := Bool.and_eq_true_iff.mp c
  exact op_eqD hu pins s σ H x' y' v u Q I rx ry ⟨_, _, ox.dp sb (shaped_can c1), oy.dp sb (shaped_can c2), c1, c2, q _ _ (.same rep_bl)⟩
theorem p_ne (hu : X.A.units + 64 < cLine) : OpP X (compareOp .NotEq) neP := by
  intro pins s σ H x' y' v u Q I rx ry ⟨Hf, x, y, r, sb, ox, oy, e, q⟩
  obtain ⟨c, e⟩ := when_some e
  cases e
  obtain ⟨c1, c2⟩ := Bool.and_eq_true_iff.mp c
  exact op_neD hu pins s σ H x' y' v u Q I rx ry ⟨_, _, ox.dp sb (shaped_can c1), oy.dp sb (shaped_can c2), c1, c2, q _ _ (.same rep_bl)⟩
theorem reps_ints {ns : List Int} : ∀ {vs : List V}, Reps K H vs (ns.map PV.int) → vs = ns.map V.int := by
  induction ns with
  | nil => intro vs h; exact h.nil_inv
  | cons n ns ih =>
    intro vs h
    obtain ⟨v, r, rfl, h1, h2⟩ := h.cons_inv
    rw [ih h2]
    unfold Rep at h1
    subst h1; rfl
theorem two_reads {pins : List (Addr × Obj)} {s : Shared} {σ : L2.St} {H : Hp} {x' y' : V} {v u : Value} {Hf : Hp} {x y : PV} (I : L2.Inv X pins σ H s) (sb : Bel Hf H) (ox : Opd X.K Hf H x' x) (oy : Opd X.K Hf H y' y) (rx : RelV x' v) (ry : RelV y' u) (c : dOk x y = true) :
    ∃ as bs, Reads s.heap v (toD x) as ∧ Reads s.heap u (toD y) bs ∧ PySem.W.alike (toD x) (toD y) = true ∧ min (toD x).depth (toD y).depth ≤ 64 ∧ min (toD y).depth (toD x).depth ≤ 64 := by
  obtain ⟨c1, c3⟩ := Bool.and_eq_true_iff.mp c
  obtain ⟨c1, c2⟩ := Bool.and_eq_true_iff.mp c1
  obtain ⟨as, r1⟩ := Dp.reads I _ _ _ (Opd.dp sb ox (SeqAt.canLay_of_shaped c1)) rx
  obtain ⟨bs, r2⟩ := Dp.reads I _ _ _ (Opd.dp sb oy (SeqAt.canLay_of_shaped c2)) ry
  have := SeqAt.depth_of_shaped c1
  exact ⟨as, bs, r1, r2, c3, by omega, by omega⟩
theorem p_lt (hu : X.A.units + 64 < cLine) : OpP X (compareOp .Lt) ltP := by
  intro pins s σ H x' y' v u Q I rx ry ⟨Hf, x, y, r, sb, ox, oy, e, q⟩
  unfold ltP at e
  split at e
  · cases e; exact op_lt pins s σ H x' y' v u Q I rx ry ⟨_, _, opd_int ox, opd_int oy, q _ _ (.same rep_bl)⟩
  · cases e; exact op_lt_str pins s σ H x' y' v u Q I rx ry ⟨_, _, opd_str ox, opd_str oy, q _ _ (.same rep_bl)⟩
  · obtain ⟨c, e⟩ := when_some e
    cases e
    obtain ⟨as, bs, r1, r2, c1, c2, c3⟩ := two_reads I sb ox oy rx ry c
    exact PySem.W.lt_data r1 r2 c1 (fun z => nomatch z) (by omega) ⟨.bl _, H, I, rfl, q _ _ (.same rep_bl)⟩
  · cases e
theorem p_le (hu : X.A.units + 64 < cLine) : OpP X (compareOp .LtE) leP := by
  intro pins s σ H x' y' v u Q I rx ry ⟨Hf, x, y, r, sb, ox, oy, e, q⟩
  unfold leP at e
  split at e
  · cases e; exact op_le pins s σ H x' y' v u Q I rx ry ⟨_, _, opd_int ox, opd_int oy, q _ _ (.same rep_bl)⟩
  · cases e; exact op_le_str pins s σ H x' y' v u Q I rx ry ⟨_, _, opd_str ox, opd_str oy, q _ _ (.same rep_bl)⟩
  · obtain ⟨c, e⟩ := when_some e
    cases e
    obtain ⟨as, bs, r1, r2, c1, c2, c3⟩ := two_reads I sb ox oy rx ry c
    exact PySem.W.le_data r1 r2 c1 (fun z => nomatch z) (by omega) ⟨.bl _, H, I, rfl, q _ _ (.same rep_bl)⟩
  · cases e
theorem p_gt (hu : X.A.units + 64 < cLine) : OpP X (compareOp .Gt) gtP := by
  intro pins s σ H x' y' v u Q I rx ry ⟨Hf, x, y, r, sb, ox, oy, e, q⟩
  unfold gtP at e
  split at e
  · cases e; exact op_gt pins s σ H x' y' v u Q I rx ry ⟨_, _, opd_int ox, opd_int oy, q _ _ (.same rep_bl)⟩
  · cases e; exact op_gt_str pins s σ H x' y' v u Q I rx ry ⟨_, _, opd_str ox, opd_str oy, q _ _ (.same rep_bl)⟩
  · obtain ⟨c, e⟩ := when_some e
    cases e
    obtain ⟨as, bs, r1, r2, c1, c2, c3⟩ := two_reads I sb ox oy rx ry c
    exact PySem.W.gt_data r1 r2 c1 (fun z => nomatch z) (by omega) ⟨.bl _, H, I, rfl, q _ _ (.same rep_bl)⟩
  · cases e
theorem p_ge (hu : X.A.units + 64 < cLine) : OpP X (compareOp .GtE) geP := by
  intro pins s σ H x' y' v u Q I rx ry ⟨Hf, x, y, r, sb, ox, oy, e, q⟩
  unfold geP at e
  split at e
  · cases e; exact op_ge pins s σ H x' y' v u Q I rx ry ⟨_, _, opd_int ox, opd_int oy, q _ _ (.same rep_bl)⟩
  · cases e; exact op_ge_str pins s σ H x' y' v u Q I rx ry ⟨_, _, opd_str ox, opd_str oy, q _ _ (.same rep_bl)⟩
  · obtain ⟨c, e⟩ := when_some e
    cases e
    obtain ⟨as, bs, r1, r2, c1, c2, c3⟩ := two_reads I sb ox oy rx ry c
    exact PySem.W.ge_data r1 r2 c1 (fun z => nomatch z) (by omega) ⟨.bl _, H, I, rfl, q _ _ (.same rep_bl)⟩
  · cases e
theorem Opd.non_iff {v : V} {x : PV} (h : Opd K Hf H v x) : decide (v = .non) = x.isNon := by
  cases x with
  | non => rw [opd_non h]; rfl
  | bl b => rw [opd_bl h]; rfl
  | int b => rw [opd_int h]; rfl
  | str b => rw [opd_str h]; rfl
  | tup xs =>
    have h : Rep K Hf v (.tup xs) := h
    unfold Rep at h
    obtain ⟨a, vs, rfl, _⟩ := h; rfl
  | lst xs => obtain ⟨a, vs, rfl, _⟩ := h; rfl
  | dic ks xs => obtain ⟨a, vs, rfl, _⟩ := h; rfl
  | sq l xs =>
    have h : Rep K Hf v (.sq l xs) := h
    unfold Rep at h
    obtain ⟨a, vs, rfl, _⟩ := h; rfl
theorem isPV_inv {x y : PV} {b : Bool} (h : isPV x y = some b) : (y = .non ∧ b = x.isNon) ∨ ∃ a c, x = .bl a ∧ y = .bl c ∧ b = decide (a = c) := by
  cases y with
  | non => cases x <;> (cases h; exact .inl ⟨rfl, rfl⟩)
  | bl c => cases x <;> first | (cases h; exact .inr ⟨_, _, rfl, rfl, rfl⟩) | cases h
  | _ => cases x <;> cases h
theorem p_is : OpP X (compareOp .Is) isP := by
  intro pins s σ H x' y' v u Q I rx ry ⟨Hf, x, y, r, sb, ox, oy, e, q⟩
  obtain ⟨b, e1, rfl⟩ := Option.map_eq_some_iff.mp e
  rcases isPV_inv e1 with ⟨rfl, rfl⟩ | ⟨a, c, rfl, rfl, rfl⟩
  · exact op_isN pins s σ H x' y' v u Q I rx ry ⟨opd_non oy, by rw [ox.non_iff]; exact q _ _ (.same rep_bl)⟩
  · exact op_isBl pins s σ H x' y' v u Q I rx ry ⟨a, c, opd_bl ox, opd_bl oy, q _ _ (.same rep_bl)⟩
theorem p_isnot : OpP X (compareOp .IsNot) isNotP := by
  intro pins s σ H x' y' v u Q I rx ry ⟨Hf, x, y, r, sb, ox, oy, e, q⟩
  obtain ⟨b, e1, rfl⟩ := Option.map_eq_some_iff.mp e
  rcases isPV_inv e1 with ⟨rfl, rfl⟩ | ⟨a, c, rfl, rfl, rfl⟩
  · exact op_notN pins s σ H x' y' v u Q I rx ry ⟨opd_non oy, by rw [ox.non_iff]; exact q _ _ (.same rep_bl)⟩
  · exact op_notBl pins s σ H x' y' v u Q I rx ry ⟨a, c, opd_bl ox, opd_bl oy, q _ _ (.same rep_bl)⟩
end
end MC
set_option Elab.async false
set_option linter.all false
set_option maxRecDepth 100000
set_option maxHeartbeats 4000000
namespace MC
open PySem PySem.Spec L2
open PyProof.Rows (b2i)

section
variable {X : Cx} {K : PySem.W.Frag} {H Hf : Hp}
theorem rep_sq {v : V} {l : Bool} {xs : List PV} (s : Bel Hf H) (h : Rep K Hf v (.sq l xs)) : ∃ a vs, v = .ref a ∧ (if l = true then SqL K H a vs else SqT K H a vs) ∧ Reps K Hf vs xs := by
  unfold Rep at h
  obtain ⟨a, vs, e, h1, h2⟩ := h
  refine ⟨a, vs, e, ?_, h2⟩
  cases l with
  | true => exact s.sqL h1
  | false => exact s.sqT h1
theorem sq_or {l : Bool} {a : Addr} {vs : List V} (h : if l = true then SqL K H a vs else SqT K H a vs) : SqL K H a vs ∨ SqT K H a vs := by
  cases l with
  | true => exact .inl h
  | false => exact .inr h
theorem in_all {neg : Bool} {f : Value → Value → Sem Value} {g : PV → PV → Option OV} (hg : ∀ x y r, g x y = some r → ∃ b, inPV x y = some b ∧ r = (false, .bl (if neg then !b else b)))
    (hd : ∀ {pins : List (Addr × Obj)} {σ : Sl} {H : Hp} {s : Shared} {a : Addr} {y : V} {u : Value} {o : Option V} {Q : Value → Shared → Prop}, L2.Inv X pins σ H s → DGet H a y o → RelV y u → (∀ s', L2.Inv X pins σ H s' → Q (.bool (if neg then !o.isSome else o.isSome)) s') → wpAny (model X.prog X.w) X.A (f u (.ref a)) Q X.xe s)
    (hn : ∀ {pins : List (Addr × Obj)} {σ : Sl} {H : Hp} {s : Shared} {a b : Addr} {l : List Key} {Q : Value → Shared → Prop}, L2.Inv X pins σ H s → Rd H a (.dK []) → H b = some (.tup (l.map kV)) → (∀ s', L2.Inv X pins σ H s' → Q (.bool neg) s') → wpAny (model X.prog X.w) X.A (f (.ref b) (.ref a)) Q X.xe s)
    (h1 : OpR X f (fun x y H Q => ∃ (c : Nat) (z : Str), x = .str ⟨#[c]⟩ ∧ y = .str z ∧ Q (.bl (if neg then !decide (c ∈ z.cps.toList) else decide (c ∈ z.cps.toList))) H))
    (h2 : OpR X f (fun x y H Q => ∃ i j, x = .str i ∧ y = .str j ∧ Q (.bl (if neg then !(!(Builtin.Str.occurrences j i 0 j.length 1).isEmpty) else (!(Builtin.Str.occurrences j i 0 j.length 1).isEmpty))) H))
    (h3 : OpR X f (fun x y H Q => ∃ d ds, Dp X.K H x d ∧ Dp X.K H y (.list ds) ∧ SeqAt.shaped d = true ∧ SeqAt.shaped (.list ds) = true ∧ Q (.bl (if neg then !(ds.any fun z => PyData.eqv z d) else ds.any fun z => PyData.eqv z d)) H))
    (h4 : OpR X f (rIn X.K neg)) : OpP X f g := by
  intro pins s σ H x' y' v u Q I rx ry ⟨Hf, x, y, r, sb, ox, oy, e, q⟩
  obtain ⟨b, e2, er⟩ := hg x y r e
  subst er
  clear e
  have e := e2
  clear e2
  unfold inPV at e
  split at e
  · split at e
    · rename_i ks vs hk
      cases e
      obtain ⟨a, rfl, h⟩ := dget_of sb oy ox hk
      cases (show u = Value.ref a from ry)
      rcases h with ⟨r, hg, k1, k2⟩ | ⟨⟨hR, b, l, rfl, hb⟩, hz⟩
      · have es : r.isSome = (dGet ks vs x).isSome := by
          cases r with
          | none => rw [k2 rfl]; rfl
          | some w => obtain ⟨z, e, _⟩ := k1 w rfl; rw [e]; rfl
        exact hd I hg rx fun s' I' => ⟨.bl _, H, I', rfl, by rw [es]; exact q _ _ (.same rep_bl)⟩
      · cases (show v = Value.ref b from rx)
        refine hn I hR hb fun s' I' => ⟨.bl neg, H, I', rfl, ?_⟩
        have := q (.bl neg) H
        rw [hz] at this
        refine this (.same ?_)
        cases neg <;> exact rep_bl
    · cases e
  · cases e; exact h1 pins s σ H x' y' v u Q I rx ry ⟨_, _, opd_str ox, opd_str oy, q _ _ (.same rep_bl)⟩
  · cases e; exact h2 pins s σ H x' y' v u Q I rx ry ⟨_, _, opd_str ox, opd_str oy, q _ _ (.same rep_bl)⟩
  · rename_i xs
    unfold inSeq at e
    split at e
    · rename_i c
      cases e
      obtain ⟨c1, c2⟩ := Bool.and_eq_true_iff.mp c
      refine h3 pins s σ H x' y' v u Q I rx ry ⟨_, toDs xs, ox.dp sb (shaped_can c1), oy.dp sb (shaped_can c2), c1, c2, ?_⟩
      rw [any_toDs]
      exact q _ _ (.same rep_bl)
    · cases e
  · rename_i xs
    unfold inFlat at e
    split at e
    · rename_i c
      cases e
      obtain ⟨c1, c2⟩ := Bool.and_eq_true_iff.mp c
      obtain ⟨a, vs, rfl, ha, _, ra⟩ := opd_tup sb oy
      obtain ⟨f1, f2⟩ := inFlat_of c1 (ox.flat c1) ra c2
      refine h4 pins s σ H x' _ v u Q I rx ry ⟨a, vs, rfl, .inr (SqT.of ha), ?_, f1, ?_⟩
      · have := ox.flat c1
        exact (eqFlat_of c1 c1 this this).1
      · rw [f2]; exact q _ _ (.same rep_bl)
    · cases e
  · rename_i l xs
    unfold inFlat at e
    split at e
    · rename_i c
      cases e
      obtain ⟨c1, c2⟩ := Bool.and_eq_true_iff.mp c
      obtain ⟨a, vs, rfl, ha, ra⟩ := rep_sq sb oy
      obtain ⟨f1, f2⟩ := inFlat_of c1 (ox.flat c1) ra c2
      refine h4 pins s σ H x' _ v u Q I rx ry ⟨a, vs, rfl, sq_or ha, ?_, f1, ?_⟩
      · have := ox.flat c1
        exact (eqFlat_of c1 c1 this this).1
      · rw [f2]; exact q _ _ (.same rep_bl)
    · cases e
  · cases e
theorem p_in (hu : X.A.units + 65 < cLine) : OpP X (compareOp .In) inP := in_all (neg := false) (fun x y r e => by
    obtain ⟨b, e1, rfl⟩ := Option.map_eq_some_iff.mp e
    exact ⟨b, e1, rfl⟩) (fun I g ry h => d_in (by omega) I g ry h)
  (fun I hR hb h => by
    obtain ⟨lo, dd⟩ := empty_dict I hR
    exact wpAny_in_heap (xs := []) (tupleKind_room_in1 (by omega)) (key_of I.hok hb) lo dd (h _ (I.tok _)))
  op_in_sign op_in_str (op_inD hu) op_in_seq
theorem p_notin (hu : X.A.units + 65 < cLine) : OpP X (compareOp .NotIn) notInP := in_all (neg := true) (fun x y r e => by
    obtain ⟨b, e1, rfl⟩ := Option.map_eq_some_iff.mp e
    exact ⟨b, e1, rfl⟩) (fun I g ry h => d_notIn (by omega) I g ry h)
  (fun I hR hb h => by
    obtain ⟨lo, dd⟩ := empty_dict I hR
    exact PyProof.Rows.wpAny_notIn_heap (xs := []) (tupleKind_room_in1 (by omega)) (key_of I.hok hb) lo dd (h _ (I.tok _)))
  op_notIn_sign op_notin_str (op_notInD hu) op_notIn_seq
end

/-! ### truth -/
def truP : PV → Option Bool
  | .non => some false
  | .bl b => some b
  | .int i => some (i != 0)
  | .str x => if fits x.length then some ((x.length : Int) != 0) else none
  | .tup xs => some !xs.isEmpty
  | .lst xs => some !xs.isEmpty
  | .sq _ xs => some !xs.isEmpty
  | .dic _ _ => none
def truM (f : M PV) : M Bool := f >>= fun x => lift (truP x)
section
variable {X : Cx} {K : PySem.W.Frag} {H Hf : Hp} {a : Expr} {fa : M PV}
theorem reps_empty {xs : List PV} {vs : List V} (h : Reps K H vs xs) : vs.isEmpty = xs.isEmpty := by
  have := h.length
  cases vs <;> cases xs <;> first | rfl | cases this
theorem tru_of {x : PV} {v : V} {k : Bool} (s : Bel Hf H) (o : Opd K Hf H v x) (h : truP x = some k) : TruV K v H k := by
  cases x with
  | non => cases h; rw [opd_non o]; rfl
  | bl b => cases h; rw [opd_bl o]; rfl
  | int b => cases h; rw [opd_int o]; rfl
  | str b =>
    have h : (if fits b.length = true then some ((b.length : Int) != 0) else none) = some k := h
    split at h
    · rename_i c; cases h; rw [opd_str o]; exact ⟨of_decide_eq_true c, rfl⟩
    · cases h
  | tup xs =>
    cases h
    obtain ⟨a, vs, rfl, ha, _, ra⟩ := opd_tup s o
    exact .inr (.inl ⟨vs, SqT.of ha, by rw [reps_empty ra]⟩)
  | lst xs =>
    cases h
    obtain ⟨a, vs, rfl, ha, ra⟩ := opd_lst o
    exact .inl ⟨vs, SqL.of ha, by rw [reps_empty ra]⟩
  | sq l xs =>
    cases h
    obtain ⟨a, vs, rfl, ha, ra⟩ := rep_sq s o
    rcases sq_or ha with ha | ha
    · exact .inl ⟨vs, ha, by rw [reps_empty ra]⟩
    · exact .inr (.inl ⟨vs, ha, by rw [reps_empty ra]⟩)
  | dic _ _ => cases h
/-- an expression of any kind as a test -/
theorem wt_truth (ha : WO X a fa) (he : ∀ whole, isTrue a X.env whole = (do let v ← whole; standAt a.pos; holding [v] (truthy v)) := by intro _; rfl) : WT X a (truM fa) := ⟨ptWeak (pt_truth ha.pe he) fun σ H Q ⟨ρ, Hf, r, w⟩ => by
  unfold truM at w
  rw [wp_bind] at w
  refine ⟨ρ, Hf, r, wp_mono w fun x ρ1 w v1 Hf1 H1 r1 s1 p1 => ?_⟩
  rw [wp_lift] at w
  obtain ⟨k, e, q⟩ := w
  exact ⟨k, tru_of r1.sub p1 e, q Hf1 H1 r1 s1⟩⟩
end

/-! ### not, and, or -/
section
variable {X : Cx} {a b : Expr} {rest : List Expr} {pos : Pos} {fa fb : M Bool} {ga gb : M OV} {ha' : M PV}
def notM (f : M Bool) : M Bool := f >>= fun b => pure !b
def andM (f g : M Bool) : M Bool := f >>= fun b => if b = true then g else pure false
def orM (f g : M Bool) : M Bool := f >>= fun b => if b = true then pure true else g
theorem wt_not (h : WT X a fa) : WT X (.UnaryOp .Not a pos) (notM fa) := ⟨ptWeak (pt_not h.pt) fun σ H Q ⟨ρ, Hf, r, w⟩ => by
  unfold notM at w
  rw [wp_bind] at w
  exact ⟨ρ, Hf, r, wp_mono w fun x ρ1 w Hf1 H1 r1 s1 => wp_pure.mp w Hf1 H1 r1 s1⟩⟩
/-- a chain of and, or: its 'whole' does not matter -/
structure WW (X : Cx) (e : Expr) (f : M Bool) : Prop where
  pw : PW X e (tT X.K f)
theorem WW.wt {e : Expr} (h : WW X e fa) : WT X e fa := ⟨h.pw.pt⟩
theorem ww_and1 (h : WT X a fa) : WW X (.BoolOp .And [a] pos) fa := ⟨pw_and1 h.pt⟩
theorem ww_or1 (h : WT X a fa) : WW X (.BoolOp .Or [a] pos) fa := ⟨pw_or1 h.pt⟩
theorem pwWeak {e : Expr} {t t' : TT} (h : PW X e t) (k : ∀ σ H Q, t' σ H Q → t σ H Q) : PW X e t' := ⟨fun wh pins s σ H Q I q => h.run wh pins s σ H Q I (k σ H Q q)⟩
theorem ww_and (h1 : WT X a fa) (h2 : WW X (.BoolOp .And (b :: rest) pos) fb) : WW X (.BoolOp .And (a :: b :: rest) pos) (andM fa fb) := ⟨pwWeak (pw_and h1.pt h2.pw) fun σ H Q ⟨ρ, Hf, r, w⟩ => by
  unfold andM at w
  rw [wp_bind] at w
  refine ⟨ρ, Hf, r, wp_mono w fun x ρ1 w Hf1 H1 r1 s1 => ?_⟩
  cases x with
  | true =>
    rw [if_pos rfl] at w ⊢
    exact ⟨ρ1, Hf1, r1, wp_mono w fun y ρ2 k Hf2 H2 r2 s2 => k Hf2 H2 r2 (s1.trans s2)⟩
  | false =>
    rw [if_neg Bool.false_ne_true] at w ⊢
    exact wp_pure.mp w Hf1 H1 r1 s1⟩
theorem ww_or (h1 : WT X a fa) (h2 : WW X (.BoolOp .Or (b :: rest) pos) fb) : WW X (.BoolOp .Or (a :: b :: rest) pos) (orM fa fb) := ⟨pwWeak (pw_or h1.pt h2.pw) fun σ H Q ⟨ρ, Hf, r, w⟩ => by
  unfold orM at w
  rw [wp_bind] at w
  refine ⟨ρ, Hf, r, wp_mono w fun x ρ1 w Hf1 H1 r1 s1 => ?_⟩
  cases x with
  | false =>
    rw [if_neg Bool.false_ne_true] at w ⊢
    exact ⟨ρ1, Hf1, r1, wp_mono w fun y ρ2 k Hf2 H2 r2 s2 => k Hf2 H2 r2 (s1.trans s2)⟩
  | true =>
    rw [if_pos rfl] at w ⊢
    exact wp_pure.mp w Hf1 H1 r1 s1⟩
/-- as values, by truth -/
def notV (f : M PV) : M OV := f >>= fun x => lift ((truP x).map fun b => (false, PV.bl !b))
def andV (f : M PV) (g : M OV) : M OV := f >>= fun x => lift (truP x) >>= fun b => if b = true then g else pure (false, x)
def orV (f : M PV) (g : M OV) : M OV := f >>= fun x => lift (truP x) >>= fun b => if b = true then pure (false, x) else g
theorem we_not (h : WO X a ha') : WE X (.UnaryOp .Not a pos) (notV ha') := ⟨peWeak (pe_notT h.pe) fun σ H Q ⟨ρ, Hf, r, w⟩ => by
  unfold notV at w
  rw [wp_bind] at w
  refine ⟨ρ, Hf, r, wp_mono w fun x ρ1 w v1 Hf1 H1 r1 s1 p1 => ?_⟩
  rw [wp_lift] at w
  obtain ⟨k, e, q⟩ := w
  obtain ⟨b, e2, rfl⟩ := Option.map_eq_some_iff.mp e
  exact ⟨b, tru_of r1.sub p1 e2, q (.bl !b) Hf1 H1 r1 s1 (show Rep X.K Hf1 (.bl !b) (.bl !b) from rep_bl) fun z => nomatch z⟩⟩
theorem we_one {op : BoolOp} (h : WE X a ga) : WE X (.BoolOp op [a] pos) ga := ⟨pe_one h.pe⟩
theorem we_and (h1 : WF X a ha') (h2 : WE X (.BoolOp .And (b :: rest) pos) gb) : WE X (.BoolOp .And (a :: b :: rest) pos) (andV ha' gb) := ⟨peWeak (pe_andT h1.pe h2.pe) fun σ H Q ⟨ρ, Hf, r, w⟩ => by
  unfold andV at w
  rw [wp_bind] at w
  refine ⟨ρ, Hf, r, wp_mono w fun x ρ1 w v1 Hf1 H1 r1 s1 p1 => ?_⟩
  rw [wp_bind, wp_lift] at w
  obtain ⟨k, e, w⟩ := w
  refine ⟨k, tru_of r1.sub (Rep.opd r1.sub p1) e, ?_⟩
  cases k with
  | true =>
    rw [if_pos rfl] at w ⊢
    exact ⟨ρ1, Hf1, r1, wp_mono w fun y ρ2 k v2 Hf2 H2 r2 s2 p2 n2 => k v2 Hf2 H2 r2 (s1.trans s2) p2 (newTo s1.there n2)⟩
  | false =>
    rw [if_neg Bool.false_ne_true] at w ⊢
    exact wp_pure.mp w v1 Hf1 H1 r1 s1 p1 fun z => nomatch z⟩
theorem we_or (h1 : WF X a ha') (h2 : WE X (.BoolOp .Or (b :: rest) pos) gb) : WE X (.BoolOp .Or (a :: b :: rest) pos) (orV ha' gb) := ⟨peWeak (pe_orT h1.pe h2.pe) fun σ H Q ⟨ρ, Hf, r, w⟩ => by
  unfold orV at w
  rw [wp_bind] at w
  refine ⟨ρ, Hf, r, wp_mono w fun x ρ1 w v1 Hf1 H1 r1 s1 p1 => ?_⟩
  rw [wp_bind, wp_lift] at w
  obtain ⟨k, e, w⟩ := w
  refine ⟨k, tru_of r1.sub (Rep.opd r1.sub p1) e, ?_⟩
  cases k with
  | false =>
    rw [if_neg Bool.false_ne_true] at w ⊢
    exact ⟨ρ1, Hf1, r1, wp_mono w fun y ρ2 k v2 Hf2 H2 r2 s2 p2 n2 => k v2 Hf2 H2 r2 (s1.trans s2) p2 (newTo s1.there n2)⟩
  | true =>
    rw [if_pos rfl] at w ⊢
    exact wp_pure.mp w v1 Hf1 H1 r1 s1 p1 fun z => nomatch z⟩
/-- a if t else b -/
def ifM {α : Type} (t : M Bool) (f g : M α) : M α := t >>= fun b => if b = true then f else g
theorem we_if {c : Expr} {gc : M Bool} (hc : WT X c gc) (h1 : WE X a ga) (h2 : WE X b gb) : WE X (.IfExp c a b pos) (ifM gc ga gb) := ⟨peWeak (pe_ifExp hc.pt h1.pe h2.pe) fun σ H Q ⟨ρ, Hf, r, w⟩ => by
  unfold ifM at w
  rw [wp_bind] at w
  refine ⟨ρ, Hf, r, wp_mono w fun x ρ1 w Hf1 H1 r1 s1 => ?_⟩
  cases x with
  | false =>
    rw [if_neg Bool.false_ne_true] at w ⊢
    exact ⟨ρ1, Hf1, r1, wp_mono w fun y ρ2 k v2 Hf2 H2 r2 s2 p2 n2 => k v2 Hf2 H2 r2 (s1.trans s2) p2 (newTo s1.there n2)⟩
  | true =>
    rw [if_pos rfl] at w ⊢
    exact ⟨ρ1, Hf1, r1, wp_mono w fun y ρ2 k v2 Hf2 H2 r2 s2 p2 n2 => k v2 Hf2 H2 r2 (s1.trans s2) p2 (newTo s1.there n2)⟩⟩
end

/-! ### argument lists, displays -/
section
variable {X : Cx} {e : Expr} {es : List Expr} {pos : Pos} {f : M PV} {g : M (List PV)}
def consM (f : M PV) (g : M (List PV)) : M (List PV) := f >>= fun x => g >>= fun xs => pure (x :: xs)
theorem wl_nil : WL X [] (pure []) := ⟨paWeak pa_nil fun σ H Q ⟨ρ, Hf, r, w⟩ => wp_pure.mp w [] Hf H r .rfl' .nil⟩
theorem wl_cons (h : WF X e f) (t : WL X es g) (hs : starEach (e :: es) X.env = (false, eval e X.env) :: starEach es X.env := by rfl) : WL X (e :: es) (consM f g) := ⟨paWeak (pa_cons h.pe t.pa hs) fun σ H Q ⟨ρ, Hf, r, w⟩ => by
  unfold consM at w
  rw [wp_bind] at w
  refine ⟨ρ, Hf, r, wp_mono w fun x ρ1 w v1 Hf1 H1 r1 s1 p1 => ?_⟩
  rw [wp_bind] at w
  refine ⟨ρ1, Hf1, r1, wp_mono w fun xs ρ2 w vs2 Hf2 H2 r2 s2 p2 => ?_⟩
  exact wp_pure.mp w (v1 :: vs2) Hf2 H2 r2 (s1.trans s2) (.cons (p1.sub s2.sub) p2)⟩
def tupM (g : M (List PV)) : M OV := g >>= fun xs => lift (when (fits xs.length) (fl (.tup xs)))
def lstM (g : M (List PV)) : M OV := g >>= fun xs => lift (when (fits xs.length) (some (true, .lst xs)))
theorem we_tup {x1} (h : WL X es g) : WE X (.Tuple es x1 pos) (tupM g) := ⟨peWeak (pe_tup h.pa) fun σ H Q ⟨ρ, Hf, r, w⟩ => by
  unfold tupM at w
  rw [wp_bind] at w
  refine ⟨ρ, Hf, r, wp_mono w fun xs ρ1 w vs Hf1 H1 r1 s1 p1 => ?_⟩
  rw [wp_lift] at w
  obtain ⟨z, e, k⟩ := w
  obtain ⟨c, e⟩ := when_some e
  cases e
  refine ⟨by rw [p1.length]; exact of_decide_eq_true c, fun p np => ?_⟩
  obtain ⟨Hf3, r3, s3, ro, nw⟩ := (Res1.tup np p1).use r1
  exact k (.ref p) Hf3 _ r3 (s1.trans s3) ro (newTo s1.there nw)⟩
theorem we_lst (h : WL X es g) : WE X (.List es pos) (lstM g) := ⟨peWeak (pe_lst h.pa) fun σ H Q ⟨ρ, Hf, r, w⟩ => by
  unfold lstM at w
  rw [wp_bind] at w
  refine ⟨ρ, Hf, r, wp_mono w fun xs ρ1 w vs Hf1 H1 r1 s1 p1 => ?_⟩
  rw [wp_lift] at w
  obtain ⟨z, e, k⟩ := w
  obtain ⟨c, e⟩ := when_some e
  cases e
  refine ⟨by rw [p1.length]; exact of_decide_eq_true c, fun p np => ?_⟩
  obtain ⟨Hf3, r3, s3, ro, nw⟩ := (Res1.lst np p1).use r1
  exact k (.ref p) Hf3 _ r3 (s1.trans s3) ro (newTo s1.there nw)⟩
/-- {} -/
theorem we_dnew : WE X (.Dict [] [] pos) (pure (true, .dic [] [])) := ⟨peWeak pe_dnewK fun σ H Q ⟨ρ, Hf, r, w⟩ => by
  intro p np
  have res : Res1 X.K Hf H (.ref p) (upd H p (.dK [])) (true, .dic [] []) := .inr ⟨p, _, rfl, np, rfl, fun _ => ⟨[], .nil, .inl ⟨[], rfl, rfl, rfl⟩⟩, fun z => nomatch z⟩
  obtain ⟨Hf3, r3, s3, ro, nw⟩ := res.use r
  exact wp_pure.mp w (.ref p) Hf3 _ r3 s3 ro nw⟩
end
end MC
set_option Elab.async false
set_option linter.all false
set_option maxRecDepth 100000
set_option maxHeartbeats 4000000
namespace MC
open PySem PySem.Spec L2
open PyProof.Rows (b2i sortedS risingS ltCps_eq)

/-! ### builtins of one operand -/
def lenP : PV → Option OV
  | .str x => when (fits x.length) (fl (.int x.length))
  | .tup xs => fl (.int xs.length)
  | .lst xs => fl (.int xs.length)
  | .sq _ xs => fl (.int xs.length)
  | .dic ks _ => fl (.int ks.length)
  | _ => none
def sign (c : Nat) : PV := .str ⟨#[c]⟩
def listP : PV → Option OV
  | .str x => when (fits x.length) (some (true, .lst (x.cps.toList.map sign)))
  | .tup xs => some (true, .lst xs)
  | .lst xs => some (true, .lst xs)
  | .sq _ xs => some (true, .lst xs)
  | _ => none
def tupleP : PV → Option OV
  | .tup xs => fl (.tup xs)
  | .lst xs => fl (.tup xs)
  | _ => none
def sumP : PV → Option OV
  | .lst xs => (intsOf xs).bind fun ns => fl (.int ns.sum)
  | _ => none
def blsOf : List PV → Option (List Bool)
  | [] => some []
  | .bl b :: r => (blsOf r).map (b :: ·)
  | _ :: _ => none
def strsOf : List PV → Option (List Str)
  | [] => some []
  | .str b :: r => (strsOf r).map (b :: ·)
  | _ :: _ => none
def allP : PV → Option OV
  | .lst xs => (blsOf xs).bind fun bs => fl (.bl (bs.all id))
  | _ => none
def anyP : PV → Option OV
  | .lst xs => (blsOf xs).bind fun bs => fl (.bl (bs.any id))
  | _ => none
def maxI : List Int → Option Int
  | [] => none
  | a :: r => some (r.foldl max a)
def minI : List Int → Option Int
  | [] => none
  | a :: r => some (r.foldl min a)
def maxP : PV → Option OV
  | .lst xs => (intsOf xs).bind fun ns => (maxI ns).bind fun m => fl (.int m)
  | _ => none
def minP : PV → Option OV
  | .lst xs => (intsOf xs).bind fun ns => (minI ns).bind fun m => fl (.int m)
  | _ => none
def absP : PV → Option OV
  | .int i => fl (.int (if i < 0 then -i else i))
  | _ => none
def intP : PV → Option OV
  | .int i => fl (.int i)
  | .bl b => fl (.int (if b then 1 else 0))
  | _ => none
def strLe (a b : Str) : Bool := !decide (b.cps.toList < a.cps.toList)
def sortInts (ns : List Int) : List Int := ns.mergeSort fun a b => decide (a ≤ b)
def sortStrs (ns : List Str) : List Str := ns.mergeSort strLe
def sortedP : PV → Option OV
  | .lst xs => match intsOf xs with
    | some ns => some (true, .lst ((sortInts ns).map .int))
    | none => match strsOf xs with
      | some ss => when (decide (ss.length < 64)) (some (true, .lst ((sortStrs ss).map .str)))
      | none => none
  | _ => none

section
variable {X : Cx} {K : PySem.W.Frag} {H Hf : Hp}
theorem blsOf_some : ∀ {xs : List PV} {ns : List Bool}, blsOf xs = some ns → xs = ns.map PV.bl
  | [], _, h => by cases h; rfl
  | .bl i :: r, ns, h => by
    obtain ⟨ms, e, rfl⟩ := Option.map_eq_some_iff.mp h
    rw [blsOf_some e]; rfl
  | .non :: _, _, h => nomatch h
  | .int _ :: _, _, h => nomatch h
  | .str _ :: _, _, h => nomatch h
  | .tup _ :: _, _, h => nomatch h
  | .lst _ :: _, _, h => nomatch h
  | .dic _ _ :: _, _, h => nomatch h
  | .sq _ _ :: _, _, h => nomatch h
theorem strsOf_some : ∀ {xs : List PV} {ns : List Str}, strsOf xs = some ns → xs = ns.map PV.str
  | [], _, h => by cases h; rfl
  | .str i :: r, ns, h => by
    obtain ⟨ms, e, rfl⟩ := Option.map_eq_some_iff.mp h
    rw [strsOf_some e]; rfl
  | .non :: _, _, h => nomatch h
  | .int _ :: _, _, h => nomatch h
  | .bl _ :: _, _, h => nomatch h
  | .tup _ :: _, _, h => nomatch h
  | .lst _ :: _, _, h => nomatch h
  | .dic _ _ :: _, _, h => nomatch h
  | .sq _ _ :: _, _, h => nomatch h
theorem reps_flat {α : Type} {f : α → PV} {g : α → V} (hf : ∀ a (v : V), Rep K H v (f a) → v = g a) : ∀ {ns : List α} {vs : List V}, Reps K H vs (ns.map f) → vs = ns.map g
  | [], _, h => h.nil_inv
  | n :: ns, _, h => by
    obtain ⟨v, r, rfl, h1, h2⟩ := h.cons_inv
    rw [reps_flat hf h2, hf n v h1]; rfl
theorem reps_bls {ns : List Bool} {vs : List V} (h : Reps K H vs (ns.map PV.bl)) : vs = ns.map V.bl := reps_flat (fun a v h => by unfold Rep at h; exact h) h
theorem reps_strs {ns : List Str} {vs : List V} (h : Reps K H vs (ns.map PV.str)) : vs = ns.map V.str := reps_flat (fun a v h => by unfold Rep at h; exact h) h
theorem reps_of {α : Type} {f : α → PV} {g : α → V} (hf : ∀ a, Rep K H (g a) (f a)) : ∀ (ns : List α), Reps K H (ns.map g) (ns.map f)
  | [] => .nil
  | n :: ns => .cons (hf n) (reps_of hf ns)
theorem callP {f : Value} {g : PV → Option OV} (h : ∀ (pins : List (Addr × Obj)) (s : Shared) (σ : Sl) (H : Hp) (x' : V) (us : List Value) (Q : VK) (Hf : Hp) (x : PV) (r : OV), L2.Inv X pins σ H s → Vals [x'] us → Bel Hf H → Opd X.K Hf H x' x → g x = some r →
    (∀ v' H', Res1 X.K Hf H v' H' r → Q v' H') → wpAny (model X.prog X.w) X.A (call f us) (EP X pins σ Q) X.xe s) : CallP X f g := by
  intro pins s σ H xs us Q I r ⟨x', e, Hf, x, z, sb, ox, eg, q⟩
  subst e
  exact h pins s σ H x' us Q Hf x z I r sb ox eg q
theorem p_len : CallP X (.builtin "len") lenP := callP fun pins s σ H x' us Q Hf x r I rs sb ox e q => by
  unfold lenP at e
  split at e
  · obtain ⟨c, e⟩ := when_some e
    cases e
    exact call_len pins s σ H [x'] us Q I rs ⟨x', _, rfl, by rw [opd_str ox]; exact ⟨of_decide_eq_true c, rfl⟩, q _ _ (.same rep_int)⟩
  · cases e
    obtain ⟨a, vs, rfl, ha, _, ra⟩ := opd_tup sb ox
    exact call_len pins s σ H _ us Q I rs ⟨_, _, rfl, .inr ⟨vs, SqT.of ha, rfl⟩, by rw [ra.length]; exact q _ _ (.same rep_int)⟩
  · cases e
    obtain ⟨a, vs, rfl, ha, ra⟩ := opd_lst ox
    exact call_len pins s σ H _ us Q I rs ⟨_, _, rfl, .inl ⟨vs, SqL.of ha, rfl⟩, by rw [ra.length]; exact q _ _ (.same rep_int)⟩
  · cases e
    obtain ⟨a, vs, rfl, ha, ra⟩ := rep_sq sb ox
    refine call_len pins s σ H _ us Q I rs ⟨_, vs.length, rfl, ?_, by rw [ra.length]; exact q _ _ (.same rep_int)⟩
    rcases sq_or ha with ha | ha
    · exact .inl ⟨vs, ha, rfl⟩
    · exact .inr ⟨vs, ha, rfl⟩
  · cases e
    obtain ⟨a, vs, rfl, ra, h⟩ := ox
    obtain ⟨u, rfl, ru⟩ := vals1 rs
    cases (show u = Value.ref a from ru)
    rcases h with ⟨kk, hR, hl, rfl⟩ | ⟨kk, n, hR, hl, rfl⟩
    · refine d_len I hR fun t s' I' => ⟨.int (kk.zip vs).length, H, I', ⟨t, rfl⟩, ?_⟩
      have : (kk.zip vs).length = (kk.map kP).length := by rw [List.length_zip, List.length_map, hl, Nat.min_self]
      rw [this]; exact q _ _ (.same rep_int)
    · obtain ⟨z, hd, ys, rel, dd⟩ := dt_rd I.hok hR
      have hl2 : (kk.zip vs).length = ys.length := Paired.length rel
      have : (kk.zip vs).length = (kk.map fun l => PV.tup (l.map kP)).length := by rw [List.length_zip, List.length_map, hl, Nat.min_self]
      refine call_len_dictH hd dd (by rw [← hl2]; rw [sizeLine_eq] at z; omega) ?_
      refine ⟨.int (kk.zip vs).length, H, I.tok _, ⟨_, by rw [hl2]⟩, ?_⟩
      rw [this]; exact q _ _ (.same rep_int)
  · cases e
theorem p_list (hc : X.calm = true) : CallP X (.type "list") listP := callP fun pins s σ H x' us Q Hf x r I rs sb ox e q => by
  unfold listP at e
  split at e
  · obtain ⟨c, e⟩ := when_some e
    cases e
    rename_i z
    obtain ⟨u, rfl, ru⟩ := vals1 rs
    rw [opd_str ox] at ru
    obtain ⟨t, rfl⟩ := ru
    have c : z.length ≤ sizeLine := of_decide_eq_true c
    refine call_list_str (I.ok.hd hc) z t (hn := c) fun h' tk acc' c' hk hS hacc => ?_
    have hp : H s.heap.objs.size = none := I.hok.fresh (Nat.le_refl _)
    have hv : Vals (z.cps.toList.map fun c => V.str ⟨#[c]⟩) acc'.toList := vals_of_at (by simp [hacc.1]) fun j x u h1 h2 => by
      obtain ⟨c, t', e1, rfl⟩ := hacc.2 j u (by simpa using h2)
      rw [List.getElem?_map] at h1
      have e2 : z.cps.toList[j]? = some c := by simpa using e1
      rw [e2] at h1
      cases h1
      exact ⟨t', rfl⟩
    refine ⟨.ref s.heap.objs.size, _, I.laid (t' := tk) (o := .lst (z.cps.toList.map fun c => V.str ⟨#[c]⟩)) hk (Nat.le_refl _) ?_, rfl, q _ _ (.lst hp (reps_of (fun _ => rep_str) _))⟩
    exact ⟨by rw [List.length_map, Array.length_toList]; exact c, acc'.toList, c', hv, by simpa using hS⟩
  · cases e
    obtain ⟨a, vs, rfl, ha, _, ra⟩ := opd_tup sb ox
    exact call_list_of pins s σ H _ us Q I rs ⟨a, vs, rfl, .inr (SqT.of ha), fun l hl => q _ _ (.lst hl ra)⟩
  · cases e
    obtain ⟨a, vs, rfl, ha, ra⟩ := opd_lst ox
    exact call_list_of pins s σ H _ us Q I rs ⟨a, vs, rfl, .inl (SqL.of ha), fun l hl => q _ _ (.lst hl ra)⟩
  · cases e
    obtain ⟨a, vs, rfl, ha, ra⟩ := rep_sq sb ox
    exact call_list_of pins s σ H _ us Q I rs ⟨a, vs, rfl, sq_or ha, fun l hl => q _ _ (.lst hl ra)⟩
  · cases e
theorem p_tuple : CallP X (.type "tuple") tupleP := callP fun pins s σ H x' us Q Hf x r I rs sb ox e q => by
  unfold tupleP at e
  split at e
  · cases e
    obtain ⟨a, vs, rfl, ha, ha', ra⟩ := opd_tup sb ox
    exact call_tuple_of pins s σ H _ us Q I rs ⟨a, vs, rfl, .inr ⟨SqT.of ha, q _ _ (.same (by unfold Rep; exact ⟨a, vs, rfl, ha', ra⟩))⟩⟩
  · cases e
    obtain ⟨a, vs, rfl, ha, ra⟩ := opd_lst ox
    exact call_tuple_of pins s σ H _ us Q I rs ⟨a, vs, rfl, .inl ⟨SqL.of ha, fun l hl => q _ _ (.tup hl ra)⟩⟩
  · cases e
theorem p_sum (hc : X.calm = true) : CallP X (.builtin "sum") sumP := callP fun pins s σ H x' us Q Hf x r I rs sb ox e q => by
  unfold sumP at e
  split at e
  · obtain ⟨ns, e1, e⟩ := Option.bind_eq_some_iff.mp e
    cases e
    rw [intsOf_some e1] at ox
    obtain ⟨a, vs, rfl, ha, ra⟩ := opd_lst ox
    rw [reps_ints ra] at ha
    exact cr_sum hc pins s σ H _ us Q I rs ⟨a, ns, rfl, SqL.of ha, q _ _ (.same rep_int)⟩
  · cases e
theorem p_all (hc : X.calm = true) : CallP X (.builtin "all") allP := callP fun pins s σ H x' us Q Hf x r I rs sb ox e q => by
  unfold allP at e
  split at e
  · obtain ⟨ns, e1, e⟩ := Option.bind_eq_some_iff.mp e
    cases e
    rw [blsOf_some e1] at ox
    obtain ⟨a, vs, rfl, ha, ra⟩ := opd_lst ox
    rw [reps_bls ra] at ha
    exact cr_all hc pins s σ H _ us Q I rs ⟨a, ns, rfl, SqL.of ha, q _ _ (.same rep_bl)⟩
  · cases e
theorem p_any (hc : X.calm = true) : CallP X (.builtin "any") anyP := callP fun pins s σ H x' us Q Hf x r I rs sb ox e q => by
  unfold anyP at e
  split at e
  · obtain ⟨ns, e1, e⟩ := Option.bind_eq_some_iff.mp e
    cases e
    rw [blsOf_some e1] at ox
    obtain ⟨a, vs, rfl, ha, ra⟩ := opd_lst ox
    rw [reps_bls ra] at ha
    exact cr_any hc pins s σ H _ us Q I rs ⟨a, ns, rfl, SqL.of ha, q _ _ (.same rep_bl)⟩
  · cases e
theorem foldl_max : ∀ (r : List Int) (a : Int), (r.foldl max a ∈ a :: r) ∧ ∀ y ∈ a :: r, y ≤ r.foldl max a
  | [], a => ⟨by simp, fun y h => by simp at h; simp [h]⟩
  | b :: r, a => by
    obtain ⟨h1, h2⟩ := foldl_max r (max a b)
    rw [List.foldl_cons]
    refine ⟨?_, fun y hy => ?_⟩
    · rcases List.mem_cons.mp h1 with e | h1
      · rw [e]
        by_cases h : a ≤ b
        · rw [Int.max_eq_right h]; simp
        · rw [Int.max_eq_left (by omega)]; simp
      · exact List.mem_cons_of_mem _ (List.mem_cons_of_mem _ h1)
    · have h3 := h2 (max a b) List.mem_cons_self
      rcases List.mem_cons.mp hy with e | hy
      · subst e; omega
      · rcases List.mem_cons.mp hy with e | hy
        · subst e; omega
        · exact h2 y (List.mem_cons_of_mem _ hy)
theorem foldl_min : ∀ (r : List Int) (a : Int), (r.foldl min a ∈ a :: r) ∧ ∀ y ∈ a :: r, r.foldl min a ≤ y
  | [], a => ⟨by simp, fun y h => by simp at h; simp [h]⟩
  | b :: r, a => by
    obtain ⟨h1, h2⟩ := foldl_min r (min a b)
    rw [List.foldl_cons]
    refine ⟨?_, fun y hy => ?_⟩
    · rcases List.mem_cons.mp h1 with e | h1
      · rw [e]
        by_cases h : a ≤ b
        · rw [Int.min_eq_left h]; simp
        · rw [Int.min_eq_right (by omega)]; simp
      · exact List.mem_cons_of_mem _ (List.mem_cons_of_mem _ h1)
    · have h3 := h2 (min a b) List.mem_cons_self
      rcases List.mem_cons.mp hy with e | hy
      · subst e; omega
      · rcases List.mem_cons.mp hy with e | hy
        · subst e; omega
        · exact h2 y (List.mem_cons_of_mem _ hy)
theorem maxI_is {ns : List Int} {k : Int} (h : maxI ns = some k) : 0 < ns.length ∧ ∀ m, m ∈ ns → (∀ y, y ∈ ns → y ≤ m) → m = k := by
  cases ns with
  | nil => cases h
  | cons a r =>
    cases h
    obtain ⟨h1, h2⟩ := foldl_max r a
    exact ⟨by simp, fun m hm hy => Int.le_antisymm (h2 m hm) (hy _ h1)⟩
theorem minI_is {ns : List Int} {k : Int} (h : minI ns = some k) : 0 < ns.length ∧ ∀ m, m ∈ ns → (∀ y, y ∈ ns → m ≤ y) → m = k := by
  cases ns with
  | nil => cases h
  | cons a r =>
    cases h
    obtain ⟨h1, h2⟩ := foldl_min r a
    exact ⟨by simp, fun m hm hy => Int.le_antisymm (hy _ h1) (h2 m hm)⟩
theorem p_max (hc : X.calm = true) : CallP X (.builtin "max") maxP := callP fun pins s σ H x' us Q Hf x r I rs sb ox e q => by
  unfold maxP at e
  split at e
  · obtain ⟨ns, e1, e⟩ := Option.bind_eq_some_iff.mp e
    obtain ⟨k, e2, e⟩ := Option.bind_eq_some_iff.mp e
    cases e
    rw [intsOf_some e1] at ox
    obtain ⟨a, vs, rfl, ha, ra⟩ := opd_lst ox
    rw [reps_ints ra] at ha
    obtain ⟨h1, h2⟩ := maxI_is e2
    exact cr_max hc pins s σ H _ us Q I rs ⟨a, ns, rfl, SqL.of ha, h1, fun m hm hy => by rw [h2 m hm hy]; exact q _ _ (.same rep_int)⟩
  · cases e
theorem p_min (hc : X.calm = true) : CallP X (.builtin "min") minP := callP fun pins s σ H x' us Q Hf x r I rs sb ox e q => by
  unfold minP at e
  split at e
  · obtain ⟨ns, e1, e⟩ := Option.bind_eq_some_iff.mp e
    obtain ⟨k, e2, e⟩ := Option.bind_eq_some_iff.mp e
    cases e
    rw [intsOf_some e1] at ox
    obtain ⟨a, vs, rfl, ha, ra⟩ := opd_lst ox
    rw [reps_ints ra] at ha
    obtain ⟨h1, h2⟩ := minI_is e2
    exact cr_min hc pins s σ H _ us Q I rs ⟨a, ns, rfl, SqL.of ha, h1, fun m hm hy => by rw [h2 m hm hy]; exact q _ _ (.same rep_int)⟩
  · cases e
theorem p_abs : CallP X (.builtin "abs") absP := callP fun pins s σ H x' us Q Hf x r I rs sb ox e q => by
  unfold absP at e
  split at e
  · cases e; exact call_abs pins s σ H _ us Q I rs ⟨_, by rw [opd_int ox], q _ _ (.same rep_int)⟩
  · cases e
theorem p_int : CallP X (.type "int") intP := callP fun pins s σ H x' us Q Hf x r I rs sb ox e q => by
  unfold intP at e
  split at e
  · cases e; exact call_int1 pins s σ H _ us Q I rs (.inl ⟨_, by rw [opd_int ox], q _ _ (.same rep_int)⟩)
  · cases e; exact call_int1 pins s σ H _ us Q I rs (.inr ⟨_, by rw [opd_bl ox], q _ _ (.same rep_int)⟩)
  · cases e
theorem sortInts_is {ns ns' : List Int} (hp : ns'.Perm ns) (hs : ns'.Pairwise (· ≤ ·)) : ns' = sortInts ns := by
  refine List.Perm.eq_of_pairwise (le := fun a b : Int => a ≤ b) (fun a b _ _ h1 h2 => Int.le_antisymm h1 h2) hs ?_ (hp.trans (List.mergeSort_perm _ _).symm)
  have := List.pairwise_mergeSort (le := fun a b : Int => decide (a ≤ b)) (fun a b c h1 h2 => by simp only [decide_eq_true_eq] at *; omega) (fun a b => by simp only [Bool.or_eq_true, decide_eq_true_eq]; omega) ns
  exact this.imp fun h => of_decide_eq_true h
theorem strLe_iff (a b : Str) : strLe a b = true ↔ a.cps.toList ≤ b.cps.toList := by
  unfold strLe
  simp only [Bool.not_eq_true', decide_eq_false_iff_not]
  exact List.not_lt
theorem strLe_trans (a b c : Str) (h1 : strLe a b = true) (h2 : strLe b c = true) : strLe a c = true := by
  rw [strLe_iff] at *
  exact List.le_trans h1 h2
theorem strLe_total (a b : Str) : (strLe a b || strLe b a) = true := by
  rw [Bool.or_eq_true, strLe_iff, strLe_iff]
  exact List.le_total _ _
theorem strLe_antisymm {a b : Str} (h1 : strLe a b = true) (h2 : strLe b a = true) : a = b := by
  rw [strLe_iff] at *
  exact Str.ext' (Array.toList_inj.mp (List.le_antisymm h1 h2))
theorem risingS_pair : ∀ {ys : List Str} {x : Str}, risingS x ys = true → (x :: ys).Pairwise fun a b => strLe a b = true
  | [], x, _ => by simp
  | y :: ys, x, h => by
    have h : (!ltCps y.cps.toList x.cps.toList && risingS y ys) = true := h
    obtain ⟨h1, h2⟩ := Bool.and_eq_true_iff.mp h
    have ih := risingS_pair h2
    have xy : strLe x y = true := by unfold strLe; rw [ltCps_eq] at h1; exact h1
    refine List.pairwise_cons.mpr ⟨fun z hz => ?_, ih⟩
    rcases List.mem_cons.mp hz with e | hz
    · subst e; exact xy
    · exact strLe_trans _ _ _ xy ((List.pairwise_cons.mp ih).1 z hz)
theorem sortedS_pair : ∀ {ys : List Str}, sortedS ys = true → ys.Pairwise fun a b => strLe a b = true
  | [], _ => by simp
  | y :: ys, h => risingS_pair h
theorem sortStrs_is {ns ns' : List Str} (hp : ns'.Perm ns) (hs : sortedS ns' = true) : ns' = sortStrs ns := by
  refine List.Perm.eq_of_pairwise (le := fun a b => strLe a b = true) (fun a b _ _ h1 h2 => strLe_antisymm h1 h2) (sortedS_pair hs) ?_ (hp.trans (List.mergeSort_perm _ _).symm)
  exact List.pairwise_mergeSort strLe_trans strLe_total ns
theorem p_sorted : CallP X (.builtin "sorted") sortedP := callP fun pins s σ H x' us Q Hf x r I rs sb ox e q => by
  unfold sortedP at e
  split at e
  · split at e
    · rename_i ns e1
      cases e
      rw [intsOf_some e1] at ox
      obtain ⟨a, vs, rfl, ha, ra⟩ := opd_lst ox
      rw [reps_ints ra] at ha
      exact cr_sortedI pins s σ H _ us Q I rs ⟨a, ns, rfl, SqL.of ha, fun ns' p hp hs hn => by rw [sortInts_is hp hs]; exact q _ _ (.lst hn (reps_of (fun _ => rep_int) _))⟩
    · split at e
      · rename_i ss e1
        obtain ⟨c, e⟩ := when_some e
        cases e
        rw [strsOf_some e1] at ox
        obtain ⟨a, vs, rfl, ha, ra⟩ := opd_lst ox
        rw [reps_strs ra] at ha
        exact cr_sortedS pins s σ H _ us Q I rs ⟨a, ss, rfl, SqL.of ha, of_decide_eq_true c, fun ns' p hp hs hn => by rw [sortStrs_is hp hs]; exact q _ _ (.lst hn (reps_of (fun _ => rep_str) _))⟩
      · cases e
  · cases e
end
end MC
set_option Elab.async false
set_option linter.all false
set_option maxRecDepth 100000
set_option maxHeartbeats 4000000
namespace MC
open PySem PySem.Spec L2
open PyProof.Rows (b2i)

/-! ### a call of a builtin with one operand -/
section
variable {X : Cx} {e a b : Expr} {es : List Expr} {fa fb : M PV} {g : PV → Option OV} {id T : String} {x : Str} {p pos : Pos}
theorem readL1 {K : PySem.W.Frag} {σ : Sl} {H : Hp} {Q : VK} (h : tE K (un1 fa g) σ H Q) : tCB (fun xs H Q => ∃ x', xs = [x'] ∧ r1P K g x' H Q) (tCons (tO K fa) tNil) σ H Q := by
  obtain ⟨ρ, Hf, r, w⟩ := read1 h
  exact ⟨ρ, Hf, r, wp_mono w fun x ρ1 k v1 Hf1 H1 r1 s1 p1 => ⟨v1, rfl, k v1 Hf1 H1 r1 s1 p1⟩⟩
theorem we_call1 (hc : CallP X (.builtin id) g) (hg : Gl X x) (hm : X.mg x = none) (hv : bootBuiltins x = some (.builtin id)) (ha : WO X a fa) (hn : x ≠ "__name__" := by decide) (hdb : (x == ("__debug__" : Str)) = false := by decide)
    (hs : starEach (a :: []) X.env = (false, eval a X.env) :: starEach [] X.env := by rfl) (hpl : (backTo pos (starEach [] X.env)).any (·.1) = false := by rfl) : WE X (.Call (.Name x p) [a] [] pos) (un1 fa g) :=
  ⟨peWeak (pe_callB hc hg hm hv (pa_cons ha.pe pa_nil hs) hn hdb hs hpl) fun _ _ _ h => readL1 h⟩
theorem we_callT (hc : CallP X (.type T) g) (hg : Gl X x) (hm : X.mg x = none) (hv : bootBuiltins x = some (.type T)) (ha : WO X a fa) (hn : x ≠ "__name__" := by decide) (hdb : (x == ("__debug__" : Str)) = false := by decide)
    (hs : starEach (a :: []) X.env = (false, eval a X.env) :: starEach [] X.env := by rfl) (hpl : (backTo pos (starEach [] X.env)).any (·.1) = false := by rfl) : WE X (.Call (.Name x p) [a] [] pos) (un1 fa g) :=
  ⟨peWeak (pe_callTy hc hg hm hv (pa_cons ha.pe pa_nil hs) hn hdb hs hpl) fun _ _ _ h => readL1 h⟩

/-- a call of a builtin with several plain arguments -/
def CallL (X : Cx) (f : Value) (g : List PV → Option OV) : Prop :=
  CallR X f fun vs H Q => ∃ Hf xs r, Bel Hf H ∧ Reps X.K Hf vs xs ∧ g xs = some r ∧ ∀ v' H', Res1 X.K Hf H v' H' r → Q v' H'
def unL (fs : M (List PV)) (g : List PV → Option OV) : M OV := fs >>= fun xs => lift (g xs)
theorem readLL {K : PySem.W.Frag} {fs : M (List PV)} {g : List PV → Option OV} {σ : Sl} {H : Hp} {Q : VK} (h : tE K (unL fs g) σ H Q) :
    tCB (fun vs H Q => ∃ Hf xs r, Bel Hf H ∧ Reps K Hf vs xs ∧ g xs = some r ∧ ∀ v' H', Res1 K Hf H v' H' r → Q v' H') (tL K fs) σ H Q := by
  obtain ⟨ρ, Hf, r, w⟩ := h
  unfold unL at w
  rw [wp_bind] at w
  refine ⟨ρ, Hf, r, wp_mono w fun xs ρ1 w vs Hf1 H1 r1 s1 p1 => ?_⟩
  rw [wp_lift] at w
  obtain ⟨z, e, k⟩ := w
  refine ⟨Hf1, xs, z, r1.sub, p1, e, fun v' H' res => ?_⟩
  obtain ⟨Hf3, r3, s3, ro, nw⟩ := res.use r1
  exact k v' Hf3 H' r3 (s1.trans s3) ro (newTo s1.there nw)
theorem we_callL {fs : M (List PV)} {g : List PV → Option OV} (hc : CallL X (.builtin id) g) (hg : Gl X x) (hm : X.mg x = none) (hv : bootBuiltins x = some (.builtin id)) (ha : WL X (e :: es) fs) (hn : x ≠ "__name__" := by decide) (hdb : (x == ("__debug__" : Str)) = false := by decide)
    (hs : starEach (e :: es) X.env = (false, eval e X.env) :: starEach es X.env := by rfl) (hpl : (backTo pos (starEach es X.env)).any (·.1) = false := by rfl) : WE X (.Call (.Name x p) (e :: es) [] pos) (unL fs g) :=
  ⟨peWeak (pe_callB hc hg hm hv ha.pa hn hdb hs hpl) fun _ _ _ h => readLL h⟩
def max2P : List PV → Option OV
  | [.int i, .int j] => fl (.int (if j > i then j else i))
  | _ => none
def min2P : List PV → Option OV
  | [.int i, .int j] => fl (.int (if j < i then j else i))
  | _ => none
theorem reps2i {K : PySem.W.Frag} {H : Hp} {vs : List V} {i j : Int} (h : Reps K H vs [.int i, .int j]) : vs = [.int i, .int j] := reps_ints (ns := [i, j]) h
theorem p_max2 (hc : X.calm = true) : CallL X (.builtin "max") max2P := fun pins s σ H vs us Q I rs ⟨Hf, xs, r, sb, rp, e, q⟩ => by
  unfold max2P at e
  split at e
  · cases e; exact call_max2 hc pins s σ H vs us Q I rs ⟨_, _, reps2i rp, q _ _ (.same rep_int)⟩
  · cases e
theorem p_min2 (hc : X.calm = true) : CallL X (.builtin "min") min2P := fun pins s σ H vs us Q I rs ⟨Hf, xs, r, sb, rp, e, q⟩ => by
  unfold min2P at e
  split at e
  · cases e; exact call_min2 hc pins s σ H vs us Q I rs ⟨_, _, reps2i rp, q _ _ (.same rep_int)⟩
  · cases e

/-! ### isinstance of a built-in class -/
def tyName : PV → String
  | .non => "NoneType"
  | .bl _ => "bool"
  | .int _ => "int"
  | .str _ => "str"
  | .tup _ => "tuple"
  | .lst _ => "list"
  | .dic _ _ => "dict"
  | .sq true _ => "list"
  | .sq false _ => "tuple"
def isiP (T : String) (x : PV) : Option OV := (kitB (tyName x) T).map fun b => (false, .bl b)
theorem sq_ty {K : PySem.W.Frag} {H : Hp} {a : Addr} {vs : List V} {l : Bool} (h : if l = true then SqL K H a vs else SqT K H a vs) : TyX K H (.ref a) (.type (if l = true then "list" else "tuple")) := by
  cases l with
  | true =>
    rcases h with (h | ⟨o, h⟩) | ⟨o, its, n, hk, hc, _⟩
    · exact .base (.lst h)
    · exact .base (.frz h)
    · exact .kList hk hc
  | false =>
    rcases h with (h | ⟨o, h⟩) | ⟨o, its, n, hk, hc, _⟩
    · exact .base (.tup h)
    · exact .fTuple h
    · exact .kTuple hk hc
theorem isi_ty {K : PySem.W.Frag} {H Hf : Hp} {x : PV} {v : V} (s : Bel Hf H) (o : Opd K Hf H v x) (hd : tyName x ≠ "dict") : TyX K H v (.type (tyName x)) := by
  cases x with
  | non => rw [opd_non o]; exact .base .non
  | bl b => rw [opd_bl o]; exact .base (.bl b)
  | int b => rw [opd_int o]; exact .base (.int b)
  | str b => rw [opd_str o]; exact .base (.str b)
  | tup xs =>
    obtain ⟨a, vs, rfl, ha, _⟩ := opd_tup s o
    exact .base (.tup ha)
  | lst xs =>
    obtain ⟨a, vs, rfl, ha, _⟩ := opd_lst o
    exact .base (.lst ha)
  | dic _ _ => exact absurd rfl hd
  | sq l xs =>
    obtain ⟨a, vs, rfl, ha, _⟩ := rep_sq s o
    have := sq_ty ha
    cases l <;> exact this
theorem we_isi {q1 : Pos} {t : Str} (hg : Gl X "isinstance") (hm : X.mg "isinstance" = none) (hgt : Gl X t) (hmt : X.mg t = none) (hvt : bootBuiltins t = some (.type T)) (ha : WO X a fa)
    (hn : t ≠ "__name__" := by decide) (hdb : (t == ("__debug__" : Str)) = false := by decide)
    (hs : starEach (a :: [.Name t q1]) X.env = (false, eval a X.env) :: starEach [.Name t q1] X.env := by rfl) (hs2 : starEach (.Name t q1 :: []) X.env = (false, eval (.Name t q1) X.env) :: starEach [] X.env := by rfl)
    (hpl : (backTo pos (starEach [.Name t q1] X.env)).any (·.1) = false := by rfl) (hb : bootBuiltins "isinstance" = some (.builtin "isinstance") := by decide +kernel) :
    WE X (.Call (.Name "isinstance" p) [a, .Name t q1] [] pos) (un1 fa fun x => if tyName x = "dict" then none else isiP T x) := by
  have pt : PE X (.Name t q1) (tC (.ty T)) := pe_bltn hgt hmt hvt rfl hn hdb
  refine ⟨peWeak (pe_callB call_isi hg hm hb (pa_cons ha.pe (pa_cons pt pa_nil hs2) hs) (by decide) (by decide) hs hpl) fun σ H Q h => ?_⟩
  obtain ⟨ρ, Hf, r, w⟩ := read1 h
  refine ⟨ρ, Hf, r, wp_mono w fun x ρ1 k v1 Hf1 H1 r1 s1 p1 => ?_⟩
  obtain ⟨Hf2, x2, z, sb, o, e, q⟩ := k v1 Hf1 H1 r1 s1 p1
  have e2 : (if tyName x2 = "dict" then none else isiP T x2) = some z := e
  split at e2
  · cases e2
  · rename_i hd
    obtain ⟨b, e3, rfl⟩ := Option.map_eq_some_iff.mp e2
    exact ⟨v1, .ty T, _, .type T, b, rfl, .ty T, isi_ty sb o hd, kit_ty e3, q _ _ (.same rep_bl)⟩
end

/-! ### subscripts -/
def ixSeq (xs : List PV) (i : Int) : Option OV := (atI xs i).map fun x => (false, x)
def ixP : PV → PV → Option OV
  | .lst xs, .int i => ixSeq xs i
  | .tup xs, .int i => ixSeq xs i
  | .sq _ xs, .int i => ixSeq xs i
  | .str z, .int i => if fits z.length then (atI z.cps.toList i).map fun c => (false, sign c) else none
  | .dic ks vs, k => if kindOk ks k then (dGet ks vs k).map fun x => (false, x) else none
  | _, _ => none
section
variable {X : Cx} {K : PySem.W.Frag} {H Hf : Hp} {a b : Expr} {fa fb : M PV} {pos : Pos}
theorem reps_at {xs : List PV} {vs : List V} {i : Int} {x : PV} (h : Reps K H vs xs) (e : atI xs i = some x) : ∃ v, atI vs i = some v ∧ Rep K H v x := by
  unfold atI at e ⊢
  rw [← h.length] at e
  obtain ⟨j, e1, e2⟩ := Option.bind_eq_some_iff.mp e
  obtain ⟨v, e3, hv⟩ := h.get e2
  exact ⟨v, by rw [e1]; exact e3, hv⟩
def IxP (X : Cx) (g : PV → PV → Option OV) : Prop := IxR X (rP X.K g)
theorem p_ix (hu : X.A.units + 1 < cLine) : IxP X ixP := by
  intro value slice pins s σ H x' y' v u Q I rx ry ⟨Hf, x, y, r, sb, ox, oy, e, q⟩ hs
  unfold ixP at e
  split at e
  · obtain ⟨z, e1, rfl⟩ := Option.map_eq_some_iff.mp e
    obtain ⟨a, vs, rfl, ha, ra⟩ := opd_lst ox
    obtain ⟨w, e2, hw⟩ := reps_at ra e1
    exact ix_list value slice pins s σ H _ y' v u Q I rx ry ⟨a, vs, _, w, rfl, opd_int oy, SqL.of ha, e2, q _ _ (.same hw)⟩ hs
  · obtain ⟨z, e1, rfl⟩ := Option.map_eq_some_iff.mp e
    obtain ⟨a, vs, rfl, ha, _, ra⟩ := opd_tup sb ox
    obtain ⟨w, e2, hw⟩ := reps_at ra e1
    exact ix_tup value slice pins s σ H _ y' v u Q I rx ry ⟨a, vs, _, w, rfl, opd_int oy, SqT.of ha, e2, q _ _ (.same hw)⟩ hs
  · obtain ⟨z, e1, rfl⟩ := Option.map_eq_some_iff.mp e
    obtain ⟨a, vs, rfl, ha, ra⟩ := rep_sq sb ox
    obtain ⟨w, e2, hw⟩ := reps_at ra e1
    rcases sq_or ha with ha | ha
    · exact ix_list value slice pins s σ H _ y' v u Q I rx ry ⟨a, vs, _, w, rfl, opd_int oy, ha, e2, q _ _ (.same hw)⟩ hs
    · exact ix_tup value slice pins s σ H _ y' v u Q I rx ry ⟨a, vs, _, w, rfl, opd_int oy, ha, e2, q _ _ (.same hw)⟩ hs
  · split at e
    · rename_i c
      obtain ⟨z, e1, rfl⟩ := Option.map_eq_some_iff.mp e
      exact ix_str value slice pins s σ H x' y' v u Q I rx ry ⟨_, _, z, opd_str ox, opd_int oy, of_decide_eq_true c, e1, q _ _ (.same rep_str)⟩ hs
    · cases e
  · split at e
    · rename_i hk
      obtain ⟨z, e1, rfl⟩ := Option.map_eq_some_iff.mp e
      obtain ⟨a, rfl, h⟩ := dget_of sb ox oy hk
      cases (show v = Value.ref a from rx)
      rcases h with ⟨o, hg, k1, k2⟩ | ⟨_, hz⟩
      · cases o with
        | none => rw [k2 rfl] at e1; cases e1
        | some w =>
          obtain ⟨z2, e2, hw⟩ := k1 w rfl
          rw [e1] at e2; cases e2
          exact PyProof.Rows.tail_any (dict_typeIs I hg) PySem.F.slot_dict_getitem.lookup (d_getItem hu I hg ry fun w' s' I' rw' => ⟨w, H, I', rw', q _ _ (.same hw)⟩) hs
      · rw [hz] at e1; cases e1
    · cases e
  · cases e
theorem we_ix {g : PV → PV → Option OV} (h : IxP X g) (ha : WF X a fa) (hb : WO X b fb) (hs : PlainIx b := by intro _ _; rfl) : WE X (.Subscript a b pos) (bin2 fa fb g) := ⟨peWeak (pe_ix h ha.pe hb.pe hs) fun _ _ _ q => read2 q⟩
theorem we_ixv {g : PV → PV → Option OV} (h : IxP X g) {i : Nat} (ha : PE X a (tVar i)) (hb : WO X b fb) (hs : PlainIx b := by intro _ _; rfl) : WE X (.Subscript a b pos) (bin2v i fb g) := ⟨peWeak (pe_ix h ha hb.pe hs) fun _ _ _ q => read2v q⟩

/-! slices -/
def cutP (xs : List PV) (lo hi : Option Int) : List PV := (xs.drop (HT.sIx xs.length 0 lo)).take (HT.sIx xs.length xs.length hi - HT.sIx xs.length 0 lo)
def slP : PV → Option Int → Option Int → Option OV
  | .lst xs, lo, hi => some (true, .lst (cutP xs lo hi))
  | .sq true xs, lo, hi => some (true, .lst (cutP xs lo hi))
  | .tup xs, lo, hi => fl (.tup (cutP xs lo hi))
  | .str z, lo, hi => if fits z.length then fl (.str (cutS z lo hi)) else none
  | _, _, _ => none
def rSlP (K : PySem.W.Frag) (g : PV → Option Int → Option Int → Option OV) : V → Option Int → Option Int → Hp → VK → Prop := fun x' lo hi H Q => ∃ Hf x r, Bel Hf H ∧ Opd K Hf H x' x ∧ g x lo hi = some r ∧ ∀ v' H', Res1 K Hf H v' H' r → Q v' H'
def SlP (X : Cx) (g : PV → Option Int → Option Int → Option OV) : Prop := SlR X (rSlP X.K g)
theorem reps_cut {xs : List PV} {vs : List V} (h : Reps K H vs xs) (lo hi : Option Int) : Reps K H (cutV vs lo hi) (cutP xs lo hi) := by
  unfold cutV cutP
  rw [h.length]
  exact (h.drop _).take _
theorem p_sl : SlP X slP := by
  intro pins s σ H x' v vl vu lo hi sl Q I rx hs pl pu ⟨Hf, x, r, sb, ox, e, q⟩
  unfold slP at e
  split at e
  · cases e
    obtain ⟨a, vs, rfl, ha, ra⟩ := opd_lst ox
    exact sl_list pins s σ H _ v vl vu lo hi sl Q I rx hs pl pu ⟨a, vs, rfl, SqL.of ha, fun p np => q _ _ (.lst np (reps_cut ra lo hi))⟩
  · cases e
    obtain ⟨a, vs, rfl, ha, ra⟩ := rep_sq sb ox
    exact sl_list pins s σ H _ v vl vu lo hi sl Q I rx hs pl pu ⟨a, vs, rfl, ha, fun p np => q _ _ (.lst np (reps_cut ra lo hi))⟩
  · cases e
    rename_i xs
    obtain ⟨a, vs, rfl, ha, ha', ra⟩ := opd_tup sb ox
    refine sl_tupA pins s σ H _ v vl vu lo hi sl Q I rx hs pl pu ⟨a, vs, rfl, SqT.of ha, fun hw => ?_, fun _ p np => q _ _ (.tup np (reps_cut ra lo hi))⟩
    refine q _ _ (.same ?_)
    have : cutP xs lo hi = xs := by
      unfold cutP
      rw [ra.length] at hw
      rw [hw.1, hw.2]; simp
    rw [this]
    unfold Rep
    exact ⟨a, vs, rfl, ha', ra⟩
  · split at e
    · rename_i c
      cases e
      exact sl_str pins s σ H x' v vl vu lo hi sl Q I rx hs pl pu ⟨_, opd_str ox, of_decide_eq_true c, q _ _ (.same rep_str)⟩
    · cases e
  · cases e
/-- a slice's part -/
structure WP (X : Cx) (e : Option Expr) (f : M (Option Int)) : Prop where
  po : PO X e fun σ H Q => ∃ ρ Hf, R X.K ρ Hf σ H ∧ wp f ρ fun x ρ' => ∀ Hf' H', R X.K ρ' Hf' σ H' → Step ρ Hf σ H ρ' Hf' σ H' → Q x H'
def asInt (f : M PV) : M (Option Int) := f >>= fun x => match x with
  | .int i => pure (some i)
  | _ => bad
theorem wp_none : WP X none (pure none) := ⟨⟨fun pins s σ H Q I ⟨ρ, Hf, r, w⟩ => po_none.run pins s σ H Q I (wp_pure.mp w Hf H r .rfl')⟩⟩
theorem wp_part {e : Expr} {f : M PV} (h : WO X e f) : WP X (some e) (asInt f) := ⟨⟨fun pins s σ H Q I ⟨ρ, Hf, r, w⟩ => (po_some h.pe).run pins s σ H Q I (by
  unfold asInt at w
  rw [wp_bind] at w
  refine ⟨ρ, Hf, r, wp_mono w fun x ρ1 w v1 Hf1 H1 r1 s1 p1 => ?_⟩
  cases x with
  | int i => exact ⟨i, opd_int p1, wp_pure.mp w Hf1 H1 r1 s1⟩
  | _ => exact w.elim)⟩⟩
def slM (f : M PV) (lo hi : M (Option Int)) (g : PV → Option Int → Option Int → Option OV) : M OV := f >>= fun x => lo >>= fun l => hi >>= fun u => lift (g x l u)
def slMv (i : Nat) (lo hi : M (Option Int)) (g : PV → Option Int → Option Int → Option OV) : M OV := look i >>= fun _ => lo >>= fun l => hi >>= fun u => look i >>= fun x => lift (g x l u)
theorem we_sl {g : PV → Option Int → Option Int → Option OV} {lo hi : Option Expr} {fl fh : M (Option Int)} {p2 : Pos} (h : SlP X g) (ha : WF X a fa) (hl : WP X lo fl) (hh : WP X hi fh) : WE X (.Subscript a (.Slice lo hi none p2) pos) (slM fa fl fh g) := ⟨peWeak (pe_slice h ha.pe hl.po hh.po) fun σ H Q ⟨ρ, Hf, r, w⟩ => by
  unfold slM at w
  rw [wp_bind] at w
  refine ⟨ρ, Hf, r, wp_mono w fun x ρ1 w v1 Hf1 H1 r1 s1 p1 => ?_⟩
  rw [wp_bind] at w
  refine ⟨ρ1, Hf1, r1, wp_mono w fun l ρ2 w Hf2 H2 r2 s2 => ?_⟩
  rw [wp_bind] at w
  refine ⟨ρ2, Hf2, r2, wp_mono w fun u ρ3 w Hf3 H3 r3 s3 => ?_⟩
  rw [wp_lift] at w
  obtain ⟨z, e, k⟩ := w
  refine ⟨Hf3, x, z, r3.sub, Rep.opd r3.sub (p1.sub (s2.sub.trans s3.sub)), e, fun v' H' res => ?_⟩
  obtain ⟨Hf4, r4, s4, ro, nw⟩ := res.use r3
  have s13 := (s1.trans s2).trans s3
  exact k v' Hf4 H' r4 (s13.trans s4) ro (newTo s13.there nw)⟩
theorem we_slv {g : PV → Option Int → Option Int → Option OV} {lo hi : Option Expr} {fl fh : M (Option Int)} {p2 : Pos} {i : Nat} (h : SlP X g) (ha : PE X a (tVar i)) (hl : WP X lo fl) (hh : WP X hi fh) : WE X (.Subscript a (.Slice lo hi none p2) pos) (slMv i fl fh g) := ⟨peWeak (pe_slice h ha hl.po hh.po) fun σ H Q ⟨ρ, Hf, r, w⟩ => by
  unfold slMv at w
  rw [wp_bind] at w
  obtain ⟨o, v, e, w⟩ := look_inv w
  obtain ⟨v', s, _⟩ := r.opd e
  refine ⟨v', s, ρ, Hf, r, ?_⟩
  rw [wp_bind] at w
  refine wp_mono w fun l ρ2 w Hf2 H2 r2 s2 => ?_
  rw [wp_bind] at w
  refine ⟨ρ2, Hf2, r2, wp_mono w fun u ρ3 w Hf3 H3 r3 s3 => ?_⟩
  rw [wp_bind] at w
  obtain ⟨o2, v2', e2, w⟩ := look_inv w
  obtain ⟨v3, s3', p3⟩ := r3.opd e2
  rw [s] at s3'; cases s3'
  rw [wp_lift] at w
  obtain ⟨z, e, k⟩ := w
  refine ⟨Hf3, v2', z, r3.sub, p3, e, fun v' H' res => ?_⟩
  obtain ⟨Hf4, r4, s4, ro, nw⟩ := res.use r3
  exact k v' Hf4 H' r4 ((s2.trans s3).trans s4) ro (newTo (s2.trans s3).there nw)⟩
end
end MC
set_option Elab.async false
set_option linter.all false
set_option maxRecDepth 100000
set_option maxHeartbeats 4000000
namespace MC
open PySem PySem.Spec L2
open PyProof.Rows (b2i)

/-! ### methods of a text -/
def strM (fo : M PV) (fs : M (List PV)) (g : Str → List PV → Option OV) : M OV := fo >>= fun x => match x with
  | .str a => fs >>= fun xs => lift (g a xs)
  | _ => bad
def MtP (X : Cx) (id : String) (g : Str → List PV → Option OV) : Prop :=
  MtR X id fun x' vs H Q => ∃ Hf a xs r, x' = .str a ∧ Bel Hf H ∧ Reps X.K Hf vs xs ∧ g a xs = some r ∧ ∀ v' H', Res1 X.K Hf H v' H' r → Q v' H'
section
variable {X : Cx} {o e : Expr} {es : List Expr} {fo : M PV} {fs : M (List PV)} {g : Str → List PV → Option OV} {id : String} {name : Str} {apos pos : Pos}
theorem readMt {t : TA} {K : PySem.W.Frag} (h : ∀ {σ : Sl} {H : Hp} {Q : List V → Hp → Prop}, tL K fs σ H Q → t σ H Q) {σ : Sl} {H : Hp} {Q : VK} (hq : tE K (strM fo fs g) σ H Q) :
    tO K fo σ H fun x H1 => tyV K "str" x H1 ∧ t σ H1 fun vs H2 => ∃ Hf a xs r, x = .str a ∧ Bel Hf H2 ∧ Reps K Hf vs xs ∧ g a xs = some r ∧ ∀ v' H', Res1 K Hf H2 v' H' r → Q v' H' := by
  obtain ⟨ρ, Hf, r, w⟩ := hq
  unfold strM at w
  rw [wp_bind] at w
  refine ⟨ρ, Hf, r, wp_mono w fun x ρ1 w v1 Hf1 H1 r1 s1 p1 => ?_⟩
  cases x with
  | str a =>
    have e1 := opd_str p1
    subst e1
    refine ⟨rfl, h ?_⟩
    rw [wp_bind] at w
    refine ⟨ρ1, Hf1, r1, wp_mono w fun xs ρ2 w vs Hf2 H2 r2 s2 p2 => ?_⟩
    rw [wp_lift] at w
    obtain ⟨z, e, k⟩ := w
    refine ⟨Hf2, a, xs, z, rfl, r2.sub, p2, e, fun v' H' res => ?_⟩
    obtain ⟨Hf3, r3, s3, ro, nw⟩ := res.use r2
    have s12 := s1.trans s2
    exact k v' Hf3 H' r3 (s12.trans s3) ro (newTo s12.there nw)
  | _ => exact w.elim
theorem we_str0 (slot : PySem.Slot "str" name id) (hty : typeOf (.builtin id) = pure (.type "method_descriptor")) (hm : MtP X id g) (ho : WO X o fo)
    (hbase : attributeBase o name X.env (eval o X.env) = eval o X.env := by rfl) (hline : (apos.endLine == pos.line) = true := by rfl) : WE X (.Call (.Attribute o name apos) [] [] pos) (strM fo (pure []) g) :=
  ⟨peWeak (pe_bm0 PySem.F.plainAttrs_str slot hty hm ho.pe hbase hline) fun _ _ _ h => readMt (t := fun σ H Q => Q [] H) (fun ⟨ρ, Hf, r, w⟩ => wp_pure.mp w [] Hf _ r .rfl' .nil) h⟩
theorem we_str (slot : PySem.Slot "str" name id) (hty : typeOf (.builtin id) = pure (.type "method_descriptor")) (hm : MtP X id g) (ho : WO X o fo) (ha : WL X (e :: es) fs)
    (hbase : attributeBase o name X.env (eval o X.env) = eval o X.env := by rfl)
    (hfew : ((backTo pos (starEach (e :: es) X.env)).all (fun x => !x.1) && (backToKw pos (keywordEach [] X.env)).all (fun x => x.1.isSome)
      && decide ((e :: es).length + ([] : List Keyword).length + (if ([] : List Keyword).isEmpty then 0 else 1) < 30)) = true := by rfl)
    (hline : (apos.endLine == pos.line) = true := by rfl) (hs : starEach (e :: es) X.env = (false, eval e X.env) :: starEach es X.env := by rfl) (hplain : (backTo pos (starEach es X.env)).any (·.1) = false := by rfl) :
    WE X (.Call (.Attribute o name apos) (e :: es) [] pos) (strM fo fs g) :=
  ⟨peWeak (pe_bm PySem.F.plainAttrs_str slot hty hm ho.pe ha.pa hbase hfew hline hs hplain) fun _ _ _ h => readMt (fun h => h) h⟩

theorem reps1 {K : PySem.W.Frag} {H : Hp} {vs : List V} {x : PV} (h : Reps K H vs [x]) : ∃ v, vs = [v] ∧ Rep K H v x := by
  obtain ⟨v, r, rfl, h1, h2⟩ := h.cons_inv
  rw [h2.nil_inv]; exact ⟨v, rfl, h1⟩
theorem reps1s {K : PySem.W.Frag} {H : Hp} {vs : List V} {x : Str} (h : Reps K H vs [.str x]) : vs = [.str x] := reps_strs (ns := [x]) h
def upperP (a : Str) : List PV → Option OV
  | [] => when (decide (a.length ≤ 5592405)) (fl (.str (Txt.upper a)))
  | _ => none
theorem p_upper : MtP X "str.upper" upperP := fun pins s σ H x' vs v us Q I rx rs ⟨Hf, a, xs, r, ex, sb, rp, e, q⟩ => by
  unfold upperP at e
  split at e
  · obtain ⟨c, e⟩ := when_some e
    cases e
    exact mt_upper pins s σ H x' vs v us Q I rx rs ⟨a, ex, rp.nil_inv, of_decide_eq_true c, q _ _ (.same rep_str)⟩
  · cases e
def lowerP (a : Str) : List PV → Option OV
  | [] => when (decide (a.length ≤ 5592405)) (fl (.str (Txt.lower a)))
  | _ => none
theorem p_lower : MtP X "str.lower" lowerP := fun pins s σ H x' vs v us Q I rx rs ⟨Hf, a, xs, r, ex, sb, rp, e, q⟩ => by
  unfold lowerP at e
  split at e
  · obtain ⟨c, e⟩ := when_some e
    cases e
    exact mt_lower pins s σ H x' vs v us Q I rx rs ⟨a, ex, rp.nil_inv, of_decide_eq_true c, q _ _ (.same rep_str)⟩
  · cases e
def joinFits (a : Str) (ys : List Str) : Bool := decide ((ys.map (·.length)).sum + ys.length * a.length ≤ 16777216)
def joinP (a : Str) : List PV → Option OV
  | [.lst xs] => (strsOf xs).bind fun ys => when (joinFits a ys) (fl (.str (Txt.join a ys)))
  | [.tup xs] => (strsOf xs).bind fun ys => when (joinFits a ys) (fl (.str (Txt.join a ys)))
  | _ => none
theorem p_join : MtP X "str.join" joinP := fun pins s σ H x' vs v us Q I rx rs ⟨Hf, a, xs, r, ex, sb, rp, e, q⟩ => by
  unfold joinP at e
  split at e
  · obtain ⟨ys, e1, e⟩ := Option.bind_eq_some_iff.mp e
    obtain ⟨c, e⟩ := when_some e
    cases e
    obtain ⟨w, rfl, hw⟩ := reps1 rp
    rw [strsOf_some e1] at hw
    obtain ⟨p, ws, rfl, hp, rw'⟩ := opd_lst (Rep.opd sb hw)
    rw [reps_strs rw'] at hp
    exact mt_join pins s σ H x' _ v us Q I rx rs ⟨a, p, ys, ex, rfl, .inl (SqL.of hp), of_decide_eq_true c, q _ _ (.same rep_str)⟩
  · obtain ⟨ys, e1, e⟩ := Option.bind_eq_some_iff.mp e
    obtain ⟨c, e⟩ := when_some e
    cases e
    obtain ⟨w, rfl, hw⟩ := reps1 rp
    rw [strsOf_some e1] at hw
    obtain ⟨p, ws, rfl, hp, _, rw'⟩ := opd_tup sb (Rep.opd sb hw)
    rw [reps_strs rw'] at hp
    exact mt_join pins s σ H x' _ v us Q I rx rs ⟨a, p, ys, ex, rfl, .inr (SqT.of hp), of_decide_eq_true c, q _ _ (.same rep_str)⟩
  · cases e
/-- the first place of a sign -/
theorem occ_first (s sub : Str) (hi : Nat) : ∀ (l : List Nat) (free : Nat), (∀ i ∈ l, free ≤ i) →
    (forIn l ((#[] : Array Nat), free) (StrLaws.occBody s sub hi 1)).run.fst = (match l.find? fun i => decide (i + sub.length ≤ hi) && Builtin.Str.subAt s sub i with
      | some i => #[i]
      | none => #[])
  | [], free, _ => by simp
  | a :: l, free, hf => by
    rw [List.forIn_cons, List.find?_cons]
    unfold StrLaws.occBody
    have ha : free ≤ a := hf a (List.mem_cons_self ..)
    by_cases hc : a + sub.length ≤ hi ∧ Builtin.Str.subAt s sub a = true
    · rw [if_pos ⟨⟨⟨by simp, ha⟩, hc.1⟩, hc.2⟩]
      have e : (decide (a + sub.length ≤ hi) && Builtin.Str.subAt s sub a) = true := by simp [hc.1, hc.2]
      rw [e]
      have full : ∀ (l : List Nat) (st : Array Nat × Nat), st.fst.size = 1 → (forIn l st (StrLaws.occBody s sub hi 1)).run.fst = st.fst := by
        intro l
        induction l with
        | nil => intro st _; rfl
        | cons b l ih =>
          intro st hst
          rw [List.forIn_cons]
          unfold StrLaws.occBody
          rw [if_neg (by omega)]
          exact ih _ hst
      exact full l _ (by simp)
    · have c2 : ¬ (((((#[] : Array Nat), free).fst.size < 1 ∧ ((#[] : Array Nat), free).snd ≤ a) ∧ a + sub.length ≤ hi) ∧ Builtin.Str.subAt s sub a = true) := fun h => hc ⟨h.1.2, h.2⟩
      rw [if_neg c2]
      have e : (decide (a + sub.length ≤ hi) && Builtin.Str.subAt s sub a) = false := by
        rw [Bool.and_eq_false_iff]
        by_cases h1 : a + sub.length ≤ hi
        · exact .inr (by
            cases h2 : Builtin.Str.subAt s sub a with
            | false => rfl
            | true => exact absurd ⟨h1, h2⟩ hc)
        · exact .inl (decide_eq_false h1)
      rw [e]
      exact occ_first s sub hi l free fun i hi' => hf i (List.mem_cons_of_mem _ hi')
theorem find_range (p : Nat → Bool) : ∀ (n a : Nat) (k : Nat), p k = true → a ≤ k → k < a + n → (∀ j, a ≤ j → j < k → p j = false) → (List.range' a n).find? p = some k
  | 0, a, k, _, h1, h2, _ => by omega
  | n + 1, a, k, hp, h1, h2, hn => by
    rw [List.range'_succ, List.find?_cons]
    by_cases e : a = k
    · subst e; rw [hp]
    · rw [hn a (Nat.le_refl _) (by omega)]
      exact find_range p n (a + 1) k hp (by omega) (by omega) fun j hj hk => hn j (by omega) hk
theorem occ_sign (z : Str) (c k : Nat) (h : z.cps.toList.findIdx? (fun x => decide (x = c)) = some k) : Builtin.Str.occurrences z ⟨#[c]⟩ 0 z.length 1 = [k] := by
  rw [StrLaws.occ_eq, occ_first _ _ _ _ _ (fun _ _ => Nat.zero_le _)]
  rw [List.findIdx?_eq_some_iff_getElem] at h
  obtain ⟨hk, h1, h2⟩ := h
  have h1 := of_decide_eq_true h1
  have hz : z.cps.toList.length = z.length := by simp [Str.length]
  rw [find_range _ _ _ k]
  · have := (StrLaws.subAt_one z c k).mpr (by rw [← h1]; simp [hk])
    rw [this.2]; simp [this.1]
  · exact Nat.zero_le _
  · rw [hz] at hk; omega
  · intro j _ hj
    have h2 := h2 j hj
    have h2 : z.cps.toList[j] ≠ c := fun e => by
      rw [decide_eq_true e] at h2
      exact absurd rfl h2
    cases q : (decide (j + (⟨#[c]⟩ : Str).length ≤ z.length) && Builtin.Str.subAt z ⟨#[c]⟩ j) with
    | false => rfl
    | true =>
      obtain ⟨a, b⟩ := Bool.and_eq_true_iff.mp q
      have := (StrLaws.subAt_one z c j).mp ⟨of_decide_eq_true a, b⟩
      have hj2 : j < z.cps.toList.length := by omega
      rw [List.getElem?_eq_getElem hj2] at this
      exact absurd (Option.some.inj this) h2
def indexP (z : Str) : List PV → Option OV
  | [.str ⟨⟨[c]⟩⟩] => (z.cps.toList.findIdx? fun x => decide (x = c)).map fun k => (false, .int (k : Nat))
  | _ => none
theorem p_index : MtP X "str.index" indexP := fun pins s σ H x' vs v us Q I rx rs ⟨Hf, a, xs, r, ex, sb, rp, e, q⟩ => by
  unfold indexP at e
  split at e
  · obtain ⟨k, e1, rfl⟩ := Option.map_eq_some_iff.mp e
    rename_i c
    have e2 := reps1s rp
    subst e2
    subst ex
    obtain ⟨t, rfl⟩ := rx
    obtain ⟨u, rfl, ru⟩ := vals1 rs
    obtain ⟨t', rfl⟩ := ru
    exact PySem.SC.index (occ_sign a c k e1) ⟨.int (k : Nat), H, I.tok _, ⟨_, rfl⟩, q _ _ (.same rep_int)⟩
  · cases e
end

/-! ### an own object changed -/
/-- the slot's own object, checked ahead -/
def owns (i : Nat) : M Unit := fun ρ => match ρ[i]? with
  | some (some (true, .lst _)) => some ((), ρ)
  | _ => none
def change {α : Type} (i : Nat) (g : PV → Option (α × PV)) : M α := fun ρ => match ρ[i]? with
  | some (some (true, x)) => (g x).map fun r => (r.1, ρ.set i (some (true, r.2)))
  | _ => none
theorem change_inv {α : Type} {i : Nat} {g : PV → Option (α × PV)} {ρ : Env} {P : α → Env → Prop} (h : wp (change i g) ρ P) : ∃ x a y, ρ[i]? = some (some (true, x)) ∧ g x = some (a, y) ∧ P a (ρ.set i (some (true, y))) := by
  unfold wp change at h
  cases e : ρ[i]? with
  | none => rw [e] at h; exact h.elim
  | some z =>
    cases z with
    | none => rw [e] at h; exact h.elim
    | some z =>
      obtain ⟨o, x⟩ := z
      cases o with
      | false => rw [e] at h; exact h.elim
      | true =>
        rw [e] at h
        cases e2 : g x with
        | none => simp only [e2] at h; exact h.elim
        | some r =>
          simp only [e2] at h
          exact ⟨x, r.1, r.2, rfl, e2, h⟩
theorem owns_inv {i : Nat} {ρ : Env} {P : Unit → Env → Prop} (h : wp (owns i) ρ P) : ∃ xs, ρ[i]? = some (some (true, .lst xs)) ∧ P () ρ := by
  unfold wp owns at h
  cases e : ρ[i]? with
  | none => rw [e] at h; exact h.elim
  | some z =>
    cases z with
    | none => rw [e] at h; exact h.elim
    | some z =>
      obtain ⟨o, x⟩ := z
      cases o with
      | false => rw [e] at h; exact h.elim
      | true =>
        cases x with
        | lst xs => rw [e] at h; exact ⟨xs, rfl, h⟩
        | _ => rw [e] at h; exact h.elim
section
variable {K : PySem.W.Frag} {ρ : Env} {Hf : Hp} {σ : Sl} {H : Hp}
/-- the step of a change -/
theorem Step.write (r : R K ρ Hf σ H) {i : Nat} {p : Addr} {ob : HO} {v w : PV} (e : ρ[i]? = some (some (true, v))) (s : σ[i]? = some (some (.ref p))) : Step ρ Hf σ H (ρ.set i (some (true, w))) Hf σ (upd H p ob) where
  sub := .rfl'
  keep := fun b o h n => by
    have : b ≠ p := fun z => n (z ▸ ⟨i, v, e, s⟩)
    rw [upd_ne this]; exact h
  new := fun b h => .inl h
  own := fun b ⟨j, x, h1, h2⟩ => by
    rcases getSet h1 with ⟨rfl, e2, _⟩ | ⟨ne, e2⟩
    · rw [s] at h2; cases h2
      exact .inl ⟨i, v, e, s⟩
    · exact .inl ⟨j, x, e2, h2⟩
  there := fun b h => by
    by_cases e : b = p
    · subst e; rw [upd_same]; simp
    · rw [upd_ne e]; exact h
theorem R.own (r : R K ρ Hf σ H) {i : Nat} {v : PV} (e : ρ[i]? = some (some (true, v))) : ∃ p ob, σ[i]? = some (some (.ref p)) ∧ Hf p = none ∧ H p = some ob ∧ Cell K Hf ob v := by
  obtain ⟨v', s, _, h⟩ := r.vars i true v e
  obtain ⟨p, ob, rfl, a, b, c⟩ := h rfl
  exact ⟨p, ob, s, a, b, c⟩
end
/-- a method of a list that changes it: the items, the arguments; the answer, the items behind -/
abbrev GMut := List PV → List PV → Option (PV × List PV)
def MutP (X : Cx) (id : String) (g : GMut) : Prop :=
  MtM X id fun x' vs H Q => ∃ Hf l us ys xs res ys', x' = .ref l ∧ Bel Hf H ∧ H l = some (.lst us) ∧ Reps X.K Hf us ys ∧ Reps X.K Hf vs xs ∧ g ys xs = some (res, ys') ∧ ∀ v' us', Rep X.K Hf v' res → Reps X.K Hf us' ys' → Q v' (upd H l (.lst us'))
def onL (g : GMut) (xs : List PV) : PV → Option (PV × PV)
  | .lst ys => (g ys xs).map fun r => (r.1, .lst r.2)
  | _ => none
def mutM (i : Nat) (fs : M (List PV)) (g : GMut) : M OV := owns i >>= fun _ => fs >>= fun xs => change i (onL g xs) >>= fun v => pure (false, v)
section
variable {X : Cx} {o e : Expr} {es : List Expr} {fs : M (List PV)} {g : GMut} {id : String} {name : Str} {apos pos : Pos} {i : Nat}
theorem readMut {t : TA} {K : PySem.W.Frag} (h : ∀ {σ : Sl} {H : Hp} {Q : List V → Hp → Prop}, tL K fs σ H Q → t σ H Q) {σ : Sl} {H : Hp} {Q : VK} (hq : tE K (mutM i fs g) σ H Q) :
    tVar i σ H fun x H1 => tyV K "list" x H1 ∧ t σ H1 fun vs H2 => ∃ Hf l us ys xs res ys', x = .ref l ∧ Bel Hf H2 ∧ H2 l = some (.lst us) ∧ Reps K Hf us ys ∧ Reps K Hf vs xs ∧ g ys xs = some (res, ys') ∧ ∀ v' us', Rep K Hf v' res → Reps K Hf us' ys' → Q v' (upd H2 l (.lst us')) := by
  obtain ⟨ρ, Hf, r, w⟩ := hq
  unfold mutM at w
  rw [wp_bind] at w
  obtain ⟨xs0, e0, w⟩ := owns_inv w
  obtain ⟨p, ob, s, _, hp, c⟩ := r.own e0
  obtain ⟨vs0, eo, _⟩ := c
  subst eo
  refine ⟨.ref p, s, .inl ⟨rfl, vs0, SqL.of hp⟩, h ?_⟩
  rw [wp_bind] at w
  refine ⟨ρ, Hf, r, wp_mono w fun xs ρ2 w vs Hf2 H2 r2 s2 p2 => ?_⟩
  rw [wp_bind] at w
  obtain ⟨x, a, y, e1, e2, w⟩ := change_inv w
  obtain ⟨p', ob', s', _, hp', c'⟩ := r2.own e1
  rw [s] at s'; cases s'
  unfold onL at e2
  split at e2
  · obtain ⟨rr, e3, e4⟩ := Option.map_eq_some_iff.mp e2
    cases e4
    obtain ⟨us, eo, rus⟩ := c'
    subst eo
    refine ⟨Hf2, p, us, _, xs, rr.1, rr.2, rfl, r2.sub, hp', rus, p2, e3, fun v' us' hv hus => ?_⟩
    have c2 : Cell K Hf2 (.lst us') (.lst rr.2) := ⟨us', rfl, hus⟩
    exact wp_pure.mp w v' Hf2 _ (r2.write e1 s c2) (s2.trans (.write r2 e1 s)) hv fun z => nomatch z
  · cases e2
theorem we_mut0 (slot : PySem.Slot "list" name id) (hty : typeOf (.builtin id) = pure (.type "method_descriptor")) (hm : MutP X id g) (ho : PE X o (tVar i))
    (hbase : attributeBase o name X.env (eval o X.env) = eval o X.env := by rfl) (hline : (apos.endLine == pos.line) = true := by rfl) : WE X (.Call (.Attribute o name apos) [] [] pos) (mutM i (pure []) g) :=
  ⟨peWeak (pe_bm0 PySem.F.plainAttrs_list slot hty hm ho hbase hline) fun _ _ _ h => readMut (t := fun σ H Q => Q [] H) (fun ⟨ρ, Hf, r, w⟩ => wp_pure.mp w [] Hf _ r .rfl' .nil) h⟩
theorem we_mut (slot : PySem.Slot "list" name id) (hty : typeOf (.builtin id) = pure (.type "method_descriptor")) (hm : MutP X id g) (ho : PE X o (tVar i)) (ha : WL X (e :: es) fs)
    (hbase : attributeBase o name X.env (eval o X.env) = eval o X.env := by rfl)
    (hfew : ((backTo pos (starEach (e :: es) X.env)).all (fun x => !x.1) && (backToKw pos (keywordEach [] X.env)).all (fun x => x.1.isSome)
      && decide ((e :: es).length + ([] : List Keyword).length + (if ([] : List Keyword).isEmpty then 0 else 1) < 30)) = true := by rfl)
    (hline : (apos.endLine == pos.line) = true := by rfl) (hs : starEach (e :: es) X.env = (false, eval e X.env) :: starEach es X.env := by rfl) (hplain : (backTo pos (starEach es X.env)).any (·.1) = false := by rfl) :
    WE X (.Call (.Attribute o name apos) (e :: es) [] pos) (mutM i fs g) :=
  ⟨peWeak (pe_bm PySem.F.plainAttrs_list slot hty hm ho ha.pa hbase hfew hline hs hplain) fun _ _ _ h => readMut (fun h => h) h⟩
def appendP : GMut := fun ys xs => match xs with
  | [x] => if decide (ys.length < sizeLine) = true then some (.non, ys ++ [x]) else none
  | _ => none
theorem p_append : MutP X "list.append" appendP := fun pins s σ H x' vs v us Q I rx rs ⟨Hf, l, ws, ys, xs, res, ys', ex, sb, hl, rw', rx', e, q⟩ => by
  unfold appendP at e
  split at e
  · split at e
    · rename_i c
      cases e
      obtain ⟨z, rfl, hz⟩ := reps1 rx'
      have c := of_decide_eq_true c
      exact mt_append pins s σ H x' _ v us Q I rx rs ⟨l, ws, z, ex, rfl, hl, by rw [rw'.length]; exact c, q _ _ rep_non (rw'.append (.cons hz .nil))⟩
    · cases e
  · cases e
def extendP : GMut := fun ys xs => match xs with
  | [.lst zs] => if decide (ys.length + zs.length ≤ sizeLine) = true then some (.non, ys ++ zs) else none
  | _ => none
theorem p_extend : MutP X "list.extend" extendP := fun pins s σ H x' vs v us Q I rx rs ⟨Hf, l, ws, ys, xs, res, ys', ex, sb, hl, rw', rx', e, q⟩ => by
  unfold extendP at e
  split at e
  · split at e
    · rename_i c
      cases e
      obtain ⟨z, rfl, hz⟩ := reps1 rx'
      have c := of_decide_eq_true c
      obtain ⟨b, zs', rfl, hb, rz⟩ := opd_lst (Rep.opd sb hz)
      exact mt_extend pins s σ H x' _ v us Q I rx rs ⟨l, b, ws, zs', ex, rfl, hl, hb, by rw [rw'.length, rz.length]; exact c, q _ _ rep_non (rw'.append rz)⟩
    · cases e
  · cases e
def popP : GMut := fun ys xs => match xs with
  | [] => (ys[ys.length - 1]?).map fun y => (y, ys.dropLast)
  | [.int k] => if decide (-(2 ^ 63) ≤ k ∧ k < 2 ^ 63) = true then (ixN ys.length k).bind fun j => (ys[j]?).map fun y => (y, ys.eraseIdx j) else none
  | _ => none
theorem reps_dropLast {K : PySem.W.Frag} {H : Hp} {vs : List V} {xs : List PV} (h : Reps K H vs xs) : Reps K H vs.dropLast xs.dropLast := by
  rw [List.dropLast_eq_take, List.dropLast_eq_take, h.length]
  exact h.take _
theorem p_pop : MutP X "list.pop" popP := fun pins s σ H x' vs v us Q I rx rs ⟨Hf, l, ws, ys, xs, res, ys', ex, sb, hl, rw', rx', e, q⟩ => by
  unfold popP at e
  split at e
  · obtain ⟨y, e1, e2⟩ := Option.map_eq_some_iff.mp e
    cases e2
    rw [← rw'.length] at e1
    obtain ⟨z, e3, hz⟩ := rw'.get e1
    exact mt_pop pins s σ H x' _ v us Q I rx rs ⟨l, ws, z, ex, rx'.nil_inv, hl, e3, q _ _ hz (reps_dropLast rw')⟩
  · split at e
    · rename_i k c
      obtain ⟨j, e1, e⟩ := Option.bind_eq_some_iff.mp e
      obtain ⟨y, e2, e3⟩ := Option.map_eq_some_iff.mp e
      cases e3
      have c := of_decide_eq_true c
      obtain ⟨z, e3, hz⟩ := rw'.get e2
      rw [← rw'.length] at e1
      exact mt_popAt pins s σ H x' _ v us Q I rx rs ⟨l, ws, k, j, z, ex, reps_ints (ns := [k]) rx', hl, c.1, c.2, (ixN_seq e1).1, e3, q _ _ hz (rw'.eraseIdx j)⟩
    · cases e
  · cases e
end
end MC
set_option Elab.async false
set_option linter.all false
set_option maxRecDepth 100000
set_option maxHeartbeats 4000000
/-! range(a, b) with bounds of any size. -/
namespace MC
open PySem PySem.Spec PyProof.Rows L2
theorem slot_lr_next : Slot "longrange_iterator" "__next__" "longrange_iterator.__next__" :=
  .of (owner := "longrange_iterator") (n := "__next__") (by rw [typeLookup_type, builtinLookup_eq_fast]; kernel_rfl) (by decide +kernel) (by decide +kernel) (by decide +kernel)
    (by first | exact .inl (by decide +kernel) | exact .inr (by decide +kernel)) (by rw [isSubtype_type]; kernel_rfl)
theorem owner_lr : Manifest.owners.lookup (String.ofList "longrange_iterator".toList.reverse.reverse) = some Manifest.sig_longrange_iterator := by kernel_rfl
theorem entry_lr_next : entryFor table "longrange_iterator.__next__" = some Builtin.«longrange_iterator.__next__» := entryFor_of_tree (by kernel_rfl)
theorem slot_lr_iter : Slot "longrange_iterator" "__iter__" "longrange_iterator.__iter__" :=
  .of (owner := "longrange_iterator") (n := "__iter__") (by rw [typeLookup_type, builtinLookup_eq_fast]; kernel_rfl) (by decide +kernel) (by decide +kernel) (by decide +kernel)
    (by first | exact .inl (by decide +kernel) | exact .inr (by decide +kernel)) (by rw [isSubtype_type]; kernel_rfl)
theorem entry_lr_iter : entryFor table "longrange_iterator.__iter__" = some Builtin.«dict_keyiterator.__iter__» :=
  entryFor_alias (id' := "dict_keyiterator.__iter__") (by kernel_rfl) (by first | rfl | decide +kernel | (unfold String.splitOn; simp +decide [String.splitOnAux])) (by decide +kernel) (by kernel_rfl)
theorem args_lr_next (a : Value) : argsOk "longrange_iterator.__next__" ⟨[a], []⟩ := by
  unfold argsOk; rw [signature?_of (id := "longrange_iterator.__next__") (n := ['_', '_', 't', 'x', 'e', 'n', '_', '_']) (o := "longrange_iterator".toList.reverse) (by kernel_rfl) owner_lr]; kernel_rfl
theorem args_lr_iter (a : Value) : argsOk "longrange_iterator.__iter__" ⟨[a], []⟩ := by
  unfold argsOk; rw [signature?_of (id := "longrange_iterator.__iter__") (n := ['_', '_', 'r', 'e', 't', 'i', '_', '_']) (o := "longrange_iterator".toList.reverse) (by kernel_rfl) owner_lr]; kernel_rfl
def IsLong (h : Heap) (it : Addr) (x left step : Int) : Prop := h.get? it = some { cls := .type "longrange_iterator", data := .fields #[rawInt x, rawInt left, rawInt step] }
theorem lr_next_1 (it : Addr) (x left step : Int) (hc0 : ¬left ≤ 0) :
    Meets (Builtin.«longrange_iterator.__next__» ⟨[.ref it], []⟩) (fun _ R s => s.heap.get? it = some { cls := .type "longrange_iterator", dict := none, data := .fields #[rawInt x, rawInt left, rawInt step], slots := #[] } ∧ R (.ok (.ret (Value.int x s.toks))) { s with heap := (s.heap.update it (Obj.mapFields fun x_1 => x_1.setIfInBounds 0 (rawInt (x + step)))).update it (Obj.mapFields fun x => x.setIfInBounds 1 (rawInt (left - 1))), toks := s.toks + 1 }) :=
  .of_wp fun prog w A R s h => by obtain ⟨hp, g, d, tk, os⟩ := s; obtain ⟨hl, h⟩ := h; wp_walk; exact ⟨_, rfl, h⟩
/-- either iterator of a range -/
def IsRg (h : Heap) (it : Addr) (x left step : Int) : Prop := IsRangeIter h it x left step ∨ IsLong h it x left step
section
variable {prog : Program} {w : World} {A : Around} {E : Value → Shared → Prop} {s : Shared}
theorem lr_item {it : Addr} {x left step : Int} {Q : Option Value → Shared → Prop} (hit : IsLong s.heap it x left step) (hleft : 0 < left)
    (hQ : ∀ h', IsLong h' it (x + step) (left - 1) step → Heap.SameBut it s.heap h' → Q (some (.int x s.toks)) { s with heap := h', toks := s.toks + 1 }) :
    wpAny (model prog w) A (pyNext (.ref it)) Q E s := by
  have hT : s.TypeIs (.ref it) "longrange_iterator" := ⟨_, hit, rfl⟩
  unfold pyNext
  refine wpAny_bind (wpAny_attempt (wpAny_callSpecial?_slot (name := Str.ofString "__next__") hT slot_lr_next
    (call_meets slot_lr_next hT entry_lr_next (args_lr_next _) (lr_next_1 it x left step (by omega)) ⟨hit, ?_⟩)))
  exact wpAny_pure (hQ _ (Heap.get?_update_self _ (Heap.get?_update_self _ hit rfl) rfl) ((Heap.SameBut.update ..).trans (Heap.SameBut.update ..)))
theorem lr_iter {it : Addr} {x left step : Int} {Q : Value → Shared → Prop} (hit : IsLong s.heap it x left step) (h : Q (.ref it) s) : wpAny (model prog w) A (pyIter (.ref it)) Q E s := by
  have hT : s.TypeIs (.ref it) "longrange_iterator" := ⟨_, hit, rfl⟩
  refine wpAny_pyIter_slot hT slot_lr_iter (wpAny_call_entry slot_lr_iter hT entry_lr_iter ?_ (args_lr_iter _))
  show wpAny _ _ (PySem.ret (Value.ref it)) _ _ s
  exact wpAny_pure ⟨_, rfl, "longrange_iterator", _, hT, slot_lr_next.lookup, h⟩
theorem lr_range {r : Addr} {a b c : Int} {t u v : Tok} {Q : Value → Shared → Prop} (hr : IsRange s.heap r a b c t u v) (hs : Builtin.Range.small a b c = false)
    (hQ : Q (.ref s.heap.objs.size) { s with heap := s.heap.push { cls := .type "longrange_iterator", data := .fields #[rawInt a, rawInt (Builtin.Range.rangeSize a b c), rawInt c] } }) :
    wpAny (model prog w) A (pyIter (.ref r)) Q E s := by
  have hT : s.TypeIs (.ref r) "range" := ⟨_, hr, rfl⟩
  refine wpAny_pyIter_slot hT F.slot_range_iter (call_meets F.slot_range_iter hT F.entry_range_iter (F.args_range_iter_1 _)
    (AutoRange.range___iter___range_0 r a b c t u v (by unfold Builtin.Range.small at hs; simp [hs])) ⟨hr, ?_⟩)
  unfold Builtin.Range.small at hs
  simp only [hs]
  exact ⟨"longrange_iterator", _, ⟨_, Heap.get?_push_size _ rfl, rfl⟩, slot_lr_next.lookup, hQ⟩
theorem lr_end {it : Addr} {x left step : Int} {Q : Option Value → Shared → Prop} (hh : A.handled = none) (hit : IsLong s.heap it x left step) (hleft : left ≤ 0)
    (hQ : ∀ h', Heap.ExtBut it s.heap h' → Q none { s with heap := h' }) : wpAny (model prog w) A (pyNext (.ref it)) Q E s := by
  have hT : s.TypeIs (.ref it) "longrange_iterator" := ⟨_, hit, rfl⟩
  unfold pyNext
  refine wpAny_bind (wpAny_attempt (wpAny_callSpecial?_slot (name := Str.ofString "__next__") hT slot_lr_next
    (wpAny_call_entry slot_lr_next hT entry_lr_next ?_ (args_lr_next _))))
  unfold Builtin.«longrange_iterator.__next__»
  wp_walk
  simp only [raiseNew]
  refine wpAny_bind (wpAny_handled ?_)
  first | rw [show A.in1.handled = none from hh] | rw [hh]
  refine wpAny_bind (wpAny_pure (wpAny_throw ?_))
  refine wpAny_bind (wpAny_isInstance (T := "StopIteration") (b := true) ⟨_, Heap.get?_push_size _ rfl, rfl⟩ isSubtype_stop ?_)
  exact wpAny_pure (hQ _ (((Heap.ExtBut.refl it s.heap).push _).push _))
/-- both, as one -/
theorem rg_item {it : Addr} {x left step : Int} {Q : Option Value → Shared → Prop} (hit : IsRg s.heap it x left step) (hleft : 0 < left)
    (hQ : ∀ h' t tk, IsRg h' it (x + step) (left - 1) step → (∀ b o, b ≠ it → s.heap.get? b = some o → h'.get? b = some o) → Q (some (.int x t)) { s with heap := h', toks := tk }) :
    wpAny (model prog w) A (pyNext (.ref it)) Q E s := by
  rcases hit with hit | hit
  · exact wpAny_pyNext_range_item hit hleft fun h' hit' hs' => hQ _ _ _ (.inl hit') fun b o hb e => hs'.extBut b o hb e
  · exact lr_item hit hleft fun h' hit' hs' => hQ _ _ _ (.inr hit') fun b o hb e => hs'.extBut b o hb e
theorem rg_end {it : Addr} {x left step : Int} {Q : Option Value → Shared → Prop} (hh : A.handled = none) (hit : IsRg s.heap it x left step) (hleft : left ≤ 0)
    (hQ : ∀ h', Heap.ExtBut it s.heap h' → Q none { s with heap := h' }) : wpAny (model prog w) A (pyNext (.ref it)) Q E s := by
  rcases hit with hit | hit
  · exact wpAny_pyNext_range_end hh hit hleft hQ
  · exact lr_end hh hit hleft hQ
theorem rg_iter {it : Addr} {x left step : Int} {Q : Value → Shared → Prop} (hit : IsRg s.heap it x left step) (h : Q (.ref it) s) : wpAny (model prog w) A (pyIter (.ref it)) Q E s := by
  rcases hit with hit | hit
  · exact wpAny_pyIter_rangeiter hit h
  · exact lr_iter hit h
theorem rg_range {r : Addr} {a b c : Int} {t u v : Tok} {Q : Value → Shared → Prop} (hr : IsRange s.heap r a b c t u v)
    (hQ : ∀ o : Obj, IsRg (s.heap.push o) s.heap.objs.size a (Builtin.Range.rangeSize a b c) c → Q (.ref s.heap.objs.size) { s with heap := s.heap.push o }) :
    wpAny (model prog w) A (pyIter (.ref r)) Q E s := by
  cases h : Builtin.Range.small a b c with
  | true => exact wpAny_pyIter_range hr h (hQ _ (.inl (Heap.get?_push_size _ rfl)))
  | false => exact lr_range hr h (hQ _ (.inr (Heap.get?_push_size _ rfl)))
theorem IsRg.obj {h : Heap} {it : Addr} {x left step : Int} (k : IsRg h it x left step) : ∃ (n : String) (o : Obj) (vs : Array Value), h.get? it = some o ∧ o.cls = .type n ∧ o.data = .fields vs ∧ (n = "range_iterator" ∨ n = "longrange_iterator") := by
  rcases k with k | k
  · exact ⟨_, _, _, k, rfl, rfl, .inl rfl⟩
  · exact ⟨_, _, _, k, rfl, rfl, .inr rfl⟩
theorem IsRg.at {h h' : Heap} {it : Addr} {x left step : Int} (k : IsRg h it x left step) (e : ∀ o, h.get? it = some o → h'.get? it = some o) : IsRg h' it x left step := by
  rcases k with k | k
  · exact .inl (e _ k)
  · exact .inr (e _ k)
end
theorem Walks_rg {prog : Program} {w : World} {A : Around} (hh : A.handled = none) (I : Addr) (a c : Int) (n : Nat) :
    Walks prog w A I [I] [I] n (fun i v => ∃ t, v = .int (a + i * c) t) (fun i h => IsRg h I (a + (i : Nat) * c) ((n : Int) - (i : Nat)) c) where
  sub := fun _ hb => hb
  frame := fun _ h h' st hk => IsRg.at (h := h) (h' := h') st (hk I (by simp))
  item := fun i s Q E hi st hQ => by
    refine rg_item st (by omega) fun h' t tk hit' hs' => hQ _ h' _ ⟨_, rfl⟩ ?_ fun b o hb e => hs' b o (fun h => hb (by simp [h])) e
    have e1 : a + ((i + 1 : Nat) : Int) * c = a + (i : Int) * c + c := by rw [Int.natCast_add, Int.add_mul]; show _ = _; rw [show ((1 : Nat) : Int) = 1 from rfl, Int.one_mul, Int.add_assoc]
    have e2 : (n : Int) - ((i + 1 : Nat) : Int) = (n : Int) - (i : Int) - 1 := by omega
    rw [e1, e2]; exact hit'
  done := fun s Q E st hQ => rg_end hh st (by omega) fun h' he' => hQ h' s.toks fun b o hb e => he' b o (fun h => hb (by simp [h])) e
  self := fun _ _ _ _ st hQ => rg_iter st hQ

theorem turn_rg {P : Program} {w : World} {K : PySem.W.Frag} {tg : Expr} (it : Addr) (lo : Int) (n : Nat) : Turn P w K tg (Itr lo n) [it] it (fun i h => IsRg h it (lo + (i : Nat) * 1) ((n : Int) - (i : Nat)) 1) where
  mem := by simp
  obj := fun i h st b hb => by
    obtain rfl : b = it := by simpa using hb
    obtain ⟨_, o, vs, e, _, d, _⟩ := IsRg.obj st
    exact ⟨o, e, fun v z => by rw [d] at z; cases z⟩
  keep := fun i h h' st k => IsRg.at st (k it (by simp))
  item := by
    intro X hP hw hK hc i pins s σ H E I hf st hg
    subst hP hw hK
    have hf1 := hf it (by simp)
    have W := Walks_rg (prog := X.prog) (w := X.w) (I.ok.hd hc) it lo 1 n
    refine W.item i s _ _ hg st fun v h' tk hv st' kk => ?_
    obtain ⟨t, rfl⟩ := hv
    have I1 : Inv X pins σ H { s with heap := h', toks := tk } := I.turned (fun b o hb e => kk b o (by simpa using hb) e) hf1.1 hf1.2.1 hf1.2.2.2.1 hf1.2.2.2.2.1 hf1.2.2.2.2.2
    obtain ⟨nm, o, vs, e, c, d, hn⟩ := IsRg.obj st'
    refine ⟨_, rfl, go_of (s := { s with heap := h', toks := tk }) (n := nm) e c d (by rcases hn with rfl | rfl <;> decide) ⟨.int (lo + i), H, I1, ⟨t, by rw [Int.mul_one]⟩, ⟨rfl, rfl⟩, st', fun b hb => (hf b hb).1⟩⟩
  done := by
    intro X hP hw hK hc i pins s σ H E I hf st hg
    subst hP hw hK
    have hf1 := hf it (by simp)
    exact rg_end (I.ok.hd hc) st (by have : n ≤ i := hg; omega) fun h' eb => ⟨rfl, I.turned (t' := s.toks) (fun b o hb e => eb b o hb e) hf1.1 hf1.2.1 hf1.2.2.2.1 hf1.2.2.2.2.1 hf1.2.2.2.2.2⟩
  self := fun _ _ _ _ _ st h => rg_iter st h
section
variable {X : Cx} {tg : Expr}
theorem rgSize (lo hi : Int) : (((hi - lo).toNat : Nat) : Int) = Builtin.Range.rangeSize lo hi 1 := by rw [rangeSize_one]; split <;> omega
theorem rg_it {pins : List (Addr × Obj)} {σ : L2.St} {H : Hp} {s : Shared} {R : It → Hp → Prop} {E : Value → Shared → Prop} {lo hi : Int} {t u v : Tok} {tk : Nat} (I : Inv X pins σ H s)
    (q : R (Itr lo (hi - lo).toNat) H) : wpAny (model X.prog X.w) X.A (pyIter (.ref s.heap.objs.size)) (PIE X pins σ tg R) E { s with heap := s.heap.push { cls := .type "range", data := .fields #[.int lo t, .int hi u, .int 1 v] }, toks := tk } := by
  refine rg_range (IsRange.new ..) fun o st => ?_
  have I1 : Inv X pins σ H { s with heap := s.heap.push { cls := .type "range", data := .fields #[.int lo t, .int hi u, .int 1 v] }, toks := tk } := I.kept fun b o e => Heap.get?_push_of_some _ e
  have e1 : lo + ((0 : Nat) : Int) * 1 = lo := by simp
  refine pi_one (tk := tk) I1 o (turn_rg _ lo (hi - lo).toNat) ?_ q
  show IsRg _ _ (lo + ((0 : Nat) : Int) * 1) ((((hi - lo).toNat : Nat) : Int) - ((0 : Nat) : Int)) 1
  rw [e1, Int.natCast_zero, Int.sub_zero, rgSize]
  exact st
def iRg1 (ta : TA) : TI := fun σ H R => ta σ H fun vs H1 => ∃ j : Int, vs = [.int j] ∧ R (Itr 0 j.toNat) H1
def iRg2 (ta : TA) : TI := fun σ H R => ta σ H fun vs H1 => ∃ i j : Int, vs = [.int i, .int j] ∧ R (Itr i (j - i).toNat) H1
theorem pi_rg1 {a : Expr} {ta : TA} {p pos : Pos} (hg : Gl X "range") (hm : X.mg "range" = none) (ha : PA X [a] ta) (hs : starEach [a] X.env = [(false, eval a X.env)] := by rfl) : PI X tg (.Call (.Name "range" p) [a] [] pos) (iRg1 ta) := by
  refine ⟨fun pins s σ H R I h => ?_⟩
  refine Call_ (ld_blt I hg hm boot_range (PyProof.Rows.callWith_type1 (thn (ha.run pos pins s σ H _ I h) fun us s1 ⟨vs, H1, I1, r1, j, e, q⟩ => ?_) hs rfl))
  subst e
  cases r1 with
  | cons r rr =>
    cases rr
    obtain ⟨t, rfl⟩ := r
    exact call_range_1 (rg_it I1 (by simpa using q))
theorem pi_rg2 {a b : Expr} {ta : TA} {p pos : Pos} (hg : Gl X "range") (hm : X.mg "range" = none) (ha : PA X [a, b] ta) (hs : starEach [a, b] X.env = [(false, eval a X.env), (false, eval b X.env)] := by rfl) (hs2 : starEach [b] X.env = [(false, eval b X.env)] := by rfl) :
    PI X tg (.Call (.Name "range" p) [a, b] [] pos) (iRg2 ta) := by
  refine ⟨fun pins s σ H R I h => ?_⟩
  refine Call_ (ld_blt I hg hm boot_range (PyProof.Rows.callWith_type1 (thn (ha.run pos pins s σ H _ I h) fun us s1 ⟨vs, H1, I1, r1, i, j, e, q⟩ => ?_) (by rw [hs, hs2]) (by rw [hs2]; rfl)))
  subst e
  cases r1 with
  | cons r rr =>
    cases rr with
    | cons r' rr =>
      cases rr
      obtain ⟨t, rfl⟩ := r
      obtain ⟨t', rfl⟩ := r'
      exact call_range_2 (rg_it I1 q)
end

/-! ### list(range) -/
section
variable {prog : Program} {w : World} {A : Around} {E : Value → Shared → Prop} {s : Shared}
theorem ext_rg {R : Result → Shared → Prop} {r : Addr} {a b c : Int} {t u v : Tok} {n : Nat} (hh : A.handled = none) (hr : IsRange s.heap r a b c t u v)
    (hn : Builtin.Range.rangeSize a b c = n) (hlen : n ≤ 2 ^ 24) (S : Addr) (res : Value) (c₀ : Nat) (hS : s.heap.get? S = some { cls := .type "list", data := .seq #[] c₀ })
    (hR : ∀ h' tk acc' c', (∀ b o, b ≠ S → s.heap.get? b = some o → h'.get? b = some o) → h'.get? S = some { cls := .type "list", dict := none, data := .seq acc' c', slots := #[] } →
      ItemsOf (fun i v => ∃ t, v = .int (a + i * c) t) acc' n → R (.ok (.ret res)) { s with heap := h', toks := tk }) :
    wpAny (model prog w) A.in1 (Builtin.List.listExtendWith (.ref S) (.ref r) res)
      (fun fin s' => match fin with | .done f => R (.ok f) s' | .again c' => c'.quiet = true ∧ codeAny (model prog w) A c' R s') (fun e s' => R (.error e) s') s := by
  have ne : S ≠ r := by intro e; rw [e, hr] at hS; simp at hS
  have lt : S < s.heap.objs.size := Heap.lt_size hS
  have ni : S ≠ s.heap.objs.size := Nat.ne_of_lt lt
  have nf : S ∉ [s.heap.objs.size] := fun m => ni (List.mem_singleton.mp m)
  have W := (Walks_rg (prog := prog) (w := w) (A := A.in1) hh s.heap.objs.size a c n).toS
  have key : ∀ (h : Heap) (c₁ tk : Nat), IsRg h s.heap.objs.size (a + ((0 : Nat) : Int) * c) ((n : Int) - ((0 : Nat) : Int)) c → (∀ b o, b ≠ S → s.heap.get? b = some o → h.get? b = some o) →
      h.get? S = some { cls := .type "list", data := .seq #[] c₁ } → codeAny (model prog w) A (.builtin "list.extend.loop" ⟨[.ref S, .ref s.heap.objs.size, res], []⟩) R { s with heap := h, toks := tk } := by
    intro h c₁ tk i0 k0 l0
    refine codeAny_extend_loopS W (by rw [sizeLine_eq]; omega) S nf res n 0 _ #[] c₁ rfl (Nat.zero_le _) i0 l0 (ItemsOf.nil _) fun s' acc c' mv l1 items => ?_
    rw [mv.eq_with]
    refine hR s'.heap s'.toks acc c' (fun x o hx e => mv.heap x o (fun hm => ?_) (k0 x o hx e)) l1 items
    rcases List.mem_cons.mp hm with z | hm
    · exact hx z
    · rw [List.mem_singleton.mp hm] at e; exact absurd (Heap.lt_size e) (Nat.lt_irrefl _)
  unfold Builtin.List.listExtendWith
  refine wpAny_bind (wpAny_typeOf (T := "range") ⟨_, hr, rfl⟩ ?_)
  have z1 : Builtin.List.listSameRef (.ref S) (.ref r) = false := by simp [Builtin.List.listSameRef, ne]
  have z2 : (Value.type "range" == Value.type "list") = false := by decide
  have z3 : (Value.type "range" == Value.type "tuple") = false := by decide
  simp only [z1, z2, z3, Bool.or_false, Bool.false_eq_true, if_false]
  refine wpAny_bind (rg_range hr fun o st => ?_)
  rw [hn] at st
  refine wpAny_bind (wpAny_holding (wpAny_hint_range (n := n) (Heap.get?_push_of_some _ hr) hn hlen ?_))
  have st1 : IsRg (s.heap.push o) s.heap.objs.size (a + ((0 : Nat) : Int) * c) ((n : Int) - ((0 : Nat) : Int)) c := by simpa using st
  have l1 := Heap.get?_push_of_some o hS
  refine wpAny_ite_split (fun _ => ?_) (fun _ => wpAny_pure ⟨plainId_quiet F.plain_extend_loop _, key _ c₀ _ st1 (fun b o _ e => Heap.get?_push_of_some _ e) l1⟩)
  refine wpAny_bind (wpAny_rule ?_)
  refine wpAny_bind ?_
  show wpAny _ _ (updateSeq S (·.push .none) >>= fun _ => updateSeq S (·.pop)) _ _ _
  refine wpAny_bind (wpAny_updateSeq l1 rfl ?_)
  have l2 := Heap.get?_update_self (Obj.mapSeq (·.push Value.none)) l1 rfl
  refine wpAny_updateSeq (hz := by seq_fits) l2 rfl ?_
  have l3 := Heap.get?_update_self (Obj.mapSeq (·.pop)) l2 rfl
  have oth : ∀ x ob, x ≠ S → (s.heap.push o).get? x = some ob → (((s.heap.push o).update S (Obj.mapSeq (·.push Value.none))).update S (Obj.mapSeq (·.pop))).get? x = some ob := fun x ob hx e =>
    (Heap.get?_update_other _ _ (Ne.symm hx)).trans ((Heap.get?_update_other _ _ (Ne.symm hx)).trans e)
  exact wpAny_pure ⟨plainId_quiet F.plain_extend_loop _, key _ _ _ (st1.at fun ob e => oth _ ob (Ne.symm ni) e) (fun x ob hx e => oth x ob hx (Heap.get?_push_of_some _ e)) l3⟩
theorem call_list_rg {Q : Value → Shared → Prop} {r : Addr} {a b c : Int} {t u v : Tok} {n : Nat} (hh : A.handled = none) (hr : IsRange s.heap r a b c t u v)
    (hn : Builtin.Range.rangeSize a b c = n) (hlen : n ≤ 2 ^ 24)
    (hQ : ∀ h' tk acc' c', (∀ b o, s.heap.get? b = some o → h'.get? b = some o) →
      h'.get? s.heap.objs.size = some { cls := .type "list", dict := none, data := .seq acc' c', slots := #[] } → ItemsOf (fun i v => ∃ t, v = .int (a + i * c) t) acc' n → Q (.ref s.heap.objs.size) { s with heap := h', toks := tk }) :
    wpAny (model prog w) A (call (.type "list") [.ref r]) Q E s := by
  refine callType_codes (Q₁ := fun obj s₁ => obj = .ref s.heap.objs.size ∧ s₁ = { s with heap := s.heap.push { cls := .type "list", data := .seq #[] } }) F.called_list (F.typeCall_list_1 _) F.entry_list_init (code_list_new _ ⟨rfl, rfl⟩) fun obj s₁ h₁ => ?_
  obtain ⟨rfl, rfl⟩ := h₁
  generalize hsz : s.heap.objs.size = S at *
  have l0 : (s.heap.push { cls := .type "list", data := .seq #[] }).get? S = some { cls := .type "list", data := .seq #[] } := by rw [← hsz]; exact Heap.get?_push_size _ rfl
  have ne : S ≠ r := by intro e; rw [← hsz] at e; exact absurd (Heap.lt_size hr) (by rw [← e]; exact Nat.lt_irrefl _)
  refine ⟨⟨_, l0, rfl⟩, F.args_list_init_2 _ _, ?_⟩
  show wpAny _ _ (do let old ← Builtin.List.listItems (.ref S); Builtin.List.listUpdate (.ref S) (fun _ => #[]); letGo old.toList.reverse; Builtin.List.listExtendWith (.ref S) (.ref r) .none) _ _ _
  refine wpAny_bind ?_
  unfold Builtin.List.listItems
  refine wpAny_bind (wpAny_seqItems l0 rfl (wpAny_pure ?_))
  show wpAny _ _ (updateSeq S (fun _ => #[]) >>= fun _ => letGo (#[] : Array Value).toList.reverse >>= fun _ => Builtin.List.listExtendWith (.ref S) (.ref r) .none) _ _ _
  refine wpAny_bind (wpAny_updateSeq l0 rfl ?_)
  have l1 := Heap.get?_update_self (Obj.mapSeq (fun _ => (#[] : Array Value))) l0 rfl
  refine wpAny_bind (wpAny_letGo ?_)
  have oth : ∀ x ob, x ≠ S → (s.heap.push { cls := .type "list", data := .seq #[] }).get? x = some ob → ((s.heap.push { cls := .type "list", data := .seq #[] }).update S (Obj.mapSeq (fun _ => (#[] : Array Value)))).get? x = some ob := fun x ob hx e => (Heap.get?_update_other _ _ (Ne.symm hx)).trans e
  refine ext_rg (A := A.in1) hh (oth r _ (Ne.symm ne) (Heap.get?_push_of_some _ hr)) hn hlen S .none _ l1 fun h' tk acc c' hk hS' hacc => ?_
  exact ⟨rfl, hQ h' tk acc c' (fun x ob e => hk x ob (by rw [← hsz]; exact Nat.ne_of_lt (Heap.lt_size e)) (oth x ob (by rw [← hsz]; exact Nat.ne_of_lt (Heap.lt_size e)) (Heap.get?_push_of_some _ e))) hS' hacc⟩
end
section
variable {X : Cx} {e : Expr} {te : L2.St → Hp → (Int → Int → Hp → Prop) → Prop}
def tLstRgL (te : L2.St → Hp → (Int → Int → Hp → Prop) → Prop) : TE := fun σ H Q => te σ H fun a b H1 => (b - a).toNat ≤ 2 ^ 24 ∧ ∀ q, H1 q = none → Q (.ref q) (upd H1 q (.lst (rgV a b)))
theorem pe_listRgL {p pos : Pos} (hc : X.calm = true) (hg : Gl X "list") (hm : X.mg "list" = none) (he : PRg X e te) (na : starEach [e] X.env = (false, eval e X.env) :: starEach [] X.env := by rfl) : PE X (.Call (.Name "list" p) [e] [] pos) (tLstRgL te) := by
  refine ⟨fun pins s σ H Q I h => ?_⟩
  refine Call_ (ld_blt I hg hm boot_list (PyProof.Rows.callWith_type1 (args_cons (thn (he pins s σ H _ I h) fun x s1 ⟨r, a, b, t, u, v, H1, ex, hr, I1, b5, q⟩ => args_nil ?_) na) na))
  subst ex
  refine call_list_rg (n := (b - a).toNat) (I1.ok.hd hc) hr (rangeSize_nat a b) b5 fun h' tk acc c' hk e' hi => ?_
  refine ⟨.ref s1.heap.objs.size, upd H1 s1.heap.objs.size (.lst (rgV a b)), I1.laid hk (Nat.le_refl _) ?_, rfl, q _ (I1.hok.fresh (Nat.le_refl _))⟩
  have e2 : (rgV a b).length ≤ sizeLine := by rw [rgV_length, sizeLine_eq]; omega
  have e3 : acc.toList.toArray = acc := by simp
  exact show ObjOk X.prog X.w _ _ _ (.lst (rgV a b)) from ⟨e2, acc.toList, c', vals_rg hi, by rw [e3]; exact e'⟩
end
end MC
set_option Elab.async false
set_option linter.all false
set_option maxRecDepth 100000
set_option maxHeartbeats 4000000
namespace MC
open PySem PySem.Spec L2
open PyProof.Rows (b2i)

/-! ### what is walked -/
/-- the iterator yields the items, whatever is made meanwhile -/
def ItOk (K : PySem.W.Frag) (Hf : Hp) (J : It) (xs : List PV) : Prop := ∃ (G : Hp → Prop) (Y : Nat → Hp → V → Hp → Prop), Walk J xs.length G Y ∧ (∀ H2, Bel Hf H2 → G H2) ∧
  ∀ (i : Nat) (x : PV) (H2 H3 : Hp) (v : V) (Hf2 : Hp), xs[i]? = some x → Bel Hf Hf2 → Bel Hf2 H2 → Y i H2 v H3 → Res1 K Hf2 H2 v H3 (false, x)
def tI (K : PySem.W.Frag) (f : M (List PV)) : TI := fun σ H Rr => ∃ ρ Hf, R K ρ Hf σ H ∧ wp f ρ fun xs ρ' => ∀ J Hf' H', ItOk K Hf' J xs → R K ρ' Hf' σ H' → Step ρ Hf σ H ρ' Hf' σ H' → Rr J H'
structure WI (X : Cx) (tg iter : Expr) (f : M (List PV)) : Prop where
  pi : PI X tg iter (tI X.K f)
def itemsOf : PV → Option (List PV)
  | .lst xs => some xs
  | .tup xs => some xs
  | .sq _ xs => some xs
  | .str z => some (z.cps.toList.map sign)
  | _ => none
def itemsM (f : M PV) : M (List PV) := f >>= fun x => lift (itemsOf x)
section
variable {X : Cx} {tg e a b : Expr} {f fa fb : M PV} {K : PySem.W.Frag} {Hf : Hp}
theorem itOk_list {a : Addr} {vs : List V} {xs : List PV} (h : ∀ H2, Bel Hf H2 → SqL K H2 a vs) (r : Reps K Hf vs xs) : ItOk K Hf (Itl K a) xs := by
  refine ⟨_, YAt vs, ?_, h, ?_⟩
  · rw [← r.length]; exact walk_list
  · rintro i x H2 H3 v Hf2 ex s1 s2 ⟨rfl, ev⟩
    obtain ⟨x', e2, hx⟩ := r.get' ev
    rw [ex] at e2; cases e2
    exact .same (hx.sub s1)
theorem itOk_tup {a : Addr} {vs : List V} {xs : List PV} (h : ∀ H2, Bel Hf H2 → SqT K H2 a vs) (r : Reps K Hf vs xs) : ItOk K Hf (Itt K a) xs := by
  refine ⟨_, YAt vs, ?_, h, ?_⟩
  · rw [← r.length]; exact walk_tup
  · rintro i x H2 H3 v Hf2 ex s1 s2 ⟨rfl, ev⟩
    obtain ⟨x', e2, hx⟩ := r.get' ev
    rw [ex] at e2; cases e2
    exact .same (hx.sub s1)
theorem wi_any (h : WF X e f) : WI X tg e (itemsM f) := ⟨⟨fun pins s σ H Rr I ⟨ρ, Hf, r, w⟩ => by
  unfold itemsM at w
  rw [wp_bind] at w
  obtain ⟨x, ρ1, e1, w⟩ := wp_iff.mp w
  rw [wp_lift] at w
  obtain ⟨xs, e2, k⟩ := w
  cases x with
  | lst ys =>
    cases e2
    refine (pi_list h.pe).run pins s σ H Rr I ⟨ρ, Hf, r, wp_some e1 fun v Hf' H' r' s' rep => ?_⟩
    unfold Rep at rep
    obtain ⟨a, vs, rfl, ha, ra⟩ := rep
    exact ⟨a, rfl, ⟨vs, SqL.of (r'.sub.lst ha)⟩, k _ _ _ (itOk_list (fun H2 b => SqL.of (b.lst ha)) ra) r' s'⟩
  | tup ys =>
    cases e2
    refine (pi_tup h.pe).run pins s σ H Rr I ⟨ρ, Hf, r, wp_some e1 fun v Hf' H' r' s' rep => ?_⟩
    unfold Rep at rep
    obtain ⟨a, vs, rfl, ha, ra⟩ := rep
    exact ⟨a, rfl, ⟨vs, SqT.of (r'.sub.tup ha)⟩, k _ _ _ (itOk_tup (fun H2 b => SqT.of (b.tup ha)) ra) r' s'⟩
  | sq l ys =>
    cases e2
    cases l with
    | true =>
      refine (pi_list h.pe).run pins s σ H Rr I ⟨ρ, Hf, r, wp_some e1 fun v Hf' H' r' s' rep => ?_⟩
      unfold Rep at rep
      obtain ⟨a, vs, rfl, ha, ra⟩ := rep
      exact ⟨a, rfl, ⟨vs, r'.sub.sqL ha⟩, k _ _ _ (itOk_list (fun H2 b => b.sqL ha) ra) r' s'⟩
    | false =>
      refine (pi_tup h.pe).run pins s σ H Rr I ⟨ρ, Hf, r, wp_some e1 fun v Hf' H' r' s' rep => ?_⟩
      unfold Rep at rep
      obtain ⟨a, vs, rfl, ha, ra⟩ := rep
      exact ⟨a, rfl, ⟨vs, r'.sub.sqT ha⟩, k _ _ _ (itOk_tup (fun H2 b => b.sqT ha) ra) r' s'⟩
  | str z =>
    cases e2
    refine (pi_str h.pe).run pins s σ H Rr I ⟨ρ, Hf, r, wp_some e1 fun v Hf' H' r' s' rep => ?_⟩
    unfold Rep at rep
    refine ⟨z, rep, k _ _ _ ⟨fun _ => True, (fun i H v H' => H' = H ∧ ∃ c, z.cps[i]? = some c ∧ v = .str ⟨#[c]⟩), ?_, fun _ _ => trivial, ?_⟩ r' s'⟩
    · have : (z.cps.toList.map sign).length = z.cps.size := by simp
      rw [this]; exact walk_str
    · rintro i x H2 H3 v Hf2 ex _ _ ⟨rfl, c, ec, rfl⟩
      have : x = sign c := by
        rw [List.getElem?_map] at ex
        have e3 : z.cps.toList[i]? = some c := by simpa using ec
        rw [e3] at ex
        exact (Option.some.inj ex).symm
      rw [this]
      exact .same rep_str
  | _ => cases e2⟩⟩
/-- range -/
def rangeL (lo hi : Int) : List PV := (List.range (hi - lo).toNat).map fun i => .int (lo + (i : Nat))
def inRange (i : Int) : Bool := decide (-(2 ^ 62) ≤ i ∧ i < 2 ^ 62)
def range1M (fa : M PV) : M (List PV) := fa >>= fun x => match x with
  | .int n => pure (rangeL 0 n)
  | _ => bad
def range2M (fa fb : M PV) : M (List PV) := fa >>= fun x => fb >>= fun y => match x, y with
  | .int n, .int m => pure (rangeL n m)
  | _, _ => bad
theorem itOk_range {lo hi : Int} : ItOk K Hf (Itr lo (hi - lo).toNat) (rangeL lo hi) := by
  refine ⟨fun _ => True, YFn fun i => .int (lo + i), ?_, fun _ _ => trivial, ?_⟩
  · have : (rangeL lo hi).length = (hi - lo).toNat := by simp [rangeL]
    rw [this]; exact walk_range
  · rintro i x H2 H3 v Hf2 ex _ _ ⟨rfl, rfl⟩
    have : x = .int (lo + (i : Nat)) := by
      unfold rangeL at ex
      rw [List.getElem?_map] at ex
      obtain ⟨j, e1, e2⟩ := Option.map_eq_some_iff.mp ex
      obtain ⟨_, e1⟩ := List.getElem?_eq_some_iff.mp e1
      rw [List.getElem_range] at e1
      rw [← e2, ← e1]
    rw [this]
    exact .same rep_int
theorem wi_range1 {p pos : Pos} (hg : Gl X "range") (hm : X.mg "range" = none) (ha : WO X a fa) (hs : starEach [a] X.env = [(false, eval a X.env)] := by rfl) : WI X tg (.Call (.Name "range" p) [a] [] pos) (range1M fa) := ⟨⟨fun pins s σ H Rr I ⟨ρ, Hf, r, w⟩ => by
  refine (pi_rg1 hg hm (pa_cons ha.pe pa_nil (by rw [hs]; rfl)) hs).run pins s σ H Rr I ?_
  unfold range1M at w
  rw [wp_bind] at w
  refine ⟨ρ, Hf, r, wp_mono w fun x ρ1 w v Hf' H' r' s' o => ?_⟩
  cases x with
  | int n =>
    rw [opd_int o]
    refine ⟨n, rfl, ?_⟩
    have := itOk_range (K := X.K) (Hf := Hf') (lo := 0) (hi := n)
    rw [Int.sub_zero] at this
    exact wp_pure.mp w _ _ _ this r' s'
  | _ => exact w.elim⟩⟩
theorem wi_range2 {p pos : Pos} (hg : Gl X "range") (hm : X.mg "range" = none) (ha : WF X a fa) (hb : WO X b fb) (hs : starEach [a, b] X.env = [(false, eval a X.env), (false, eval b X.env)] := by rfl) (hs2 : starEach [b] X.env = [(false, eval b X.env)] := by rfl) :
    WI X tg (.Call (.Name "range" p) [a, b] [] pos) (range2M fa fb) := ⟨⟨fun pins s σ H Rr I ⟨ρ, Hf, r, w⟩ => by
  refine (pi_rg2 hg hm (pa_cons ha.pe (pa_cons hb.pe pa_nil (by rw [hs2]; rfl)) (by rw [hs, hs2])) hs hs2).run pins s σ H Rr I ?_
  unfold range2M at w
  rw [wp_bind] at w
  refine ⟨ρ, Hf, r, wp_mono w fun x ρ1 w v Hf1 H1 r1 s1 o => ?_⟩
  rw [wp_bind] at w
  refine ⟨ρ1, Hf1, r1, wp_mono w fun y ρ2 w v2 Hf' H' r' s' o2 => ?_⟩
  cases x with
  | int n =>
    cases y with
    | int m =>
      have e1 : v = .int n := by unfold Rep at o; exact o
      have e2 := opd_int o2
      subst e1; subst e2
      exact ⟨n, m, rfl, wp_pure.mp w _ _ _ itOk_range r' (s1.trans s')⟩
    | _ => exact w.elim
  | _ => exact w.elim⟩⟩
/-- reversed(xs) -/
def revM (f : M PV) : M (List PV) := f >>= fun x => match x with
  | .lst xs => pure xs.reverse
  | .tup xs => pure xs.reverse
  | _ => bad
theorem rev_get {xs : List PV} {i : Nat} {x : PV} (e : xs.reverse[i]? = some x) : xs[xs.length - 1 - i]? = some x := by
  obtain ⟨h, e⟩ := List.getElem?_eq_some_iff.mp e
  rw [List.length_reverse] at h
  rw [List.getElem_reverse] at e
  rw [← e]
  simp
theorem wi_rev {p pos : Pos} (hg : Gl X "reversed") (hm : X.mg "reversed" = none) (ha : WF X a fa) (hs : starEach [a] X.env = (false, eval a X.env) :: starEach [] X.env := by rfl) : WI X tg (.Call (.Name "reversed" p) [a] [] pos) (revM fa) := ⟨⟨fun pins s σ H Rr I ⟨ρ, Hf, r, w⟩ => by
  refine (RT.pi_revA hg hm ha.pe hs).run pins s σ H Rr I ?_
  unfold revM at w
  rw [wp_bind] at w
  refine ⟨ρ, Hf, r, wp_mono w fun x ρ1 w v Hf' H' r' s' o => ?_⟩
  cases x with
  | lst xs =>
    unfold Rep at o
    obtain ⟨a, vs, rfl, ha, ra⟩ := o
    refine ⟨a, vs, rfl, .inl ⟨SqL.of (r'.sub.lst ha), wp_pure.mp w _ _ _ ⟨fun H => SqL X.K H a vs, (fun i H x H' => H' = H ∧ vs[vs.length - 1 - i]? = some x), ?_, fun H2 b => SqL.of (b.lst ha), ?_⟩ r' s'⟩⟩
    · rw [List.length_reverse, ← ra.length]; exact walk_rev
    · rintro i x H2 H3 v Hf2 ex s1 s2 ⟨rfl, ev⟩
      obtain ⟨x', e2, hx⟩ := ra.get' ev
      rw [ra.length, rev_get ex] at e2
      cases e2
      exact .same (hx.sub s1)
  | tup xs =>
    unfold Rep at o
    obtain ⟨a, vs, rfl, ha, ra⟩ := o
    refine ⟨a, vs, rfl, .inr ⟨SqT.of (r'.sub.tup ha), wp_pure.mp w _ _ _ ⟨fun H => SqT X.K H a vs, (fun i H x H' => H' = H ∧ vs[vs.length - 1 - i]? = some x), ?_, fun H2 b => SqT.of (b.tup ha), ?_⟩ r' s'⟩⟩
    · rw [List.length_reverse, ← ra.length]
      exact ⟨fun i _ hi q => ⟨hi, vs, vs[vs.length - 1 - i]'(by omega), q, by simp [show vs.length - 1 - i < vs.length by omega]⟩, fun _ _ => Nat.le_refl _, fun _ _ _ _ _ q y => ⟨y.1, y.2 vs q⟩⟩
    · rintro i x H2 H3 v Hf2 ex s1 s2 ⟨rfl, ev⟩
      obtain ⟨x', e2, hx⟩ := ra.get' ev
      rw [ra.length, rev_get ex] at e2
      cases e2
      exact .same (hx.sub s1)
  | _ => exact w.elim⟩⟩
end

/-! ### targets -/
/-- a target that binds the slots ts -/
def tG (K : PySem.W.Frag) (ts : List Nat) (h : PV → M Unit) : TG := fun v σ H Q => ∃ ρ Hf x, R K ρ Hf σ H ∧ Rep K Hf v x ∧ wp (h x) ρ fun _ ρ' => ∀ σ', R K ρ' Hf σ' H → Step ρ Hf σ H ρ' Hf σ' H → σ'.length = σ.length → (∀ j, j ∉ ts → σ'[j]? = σ[j]?) → Q σ' H
def tGs (K : PySem.W.Frag) (ts : List Nat) (h : List PV → M Unit) : TGs := fun vs σ H Q => ∃ ρ Hf xs, R K ρ Hf σ H ∧ Reps K Hf vs xs ∧ wp (h xs) ρ fun _ ρ' => ∀ σ', R K ρ' Hf σ' H → Step ρ Hf σ H ρ' Hf σ' H → σ'.length = σ.length → (∀ j, j ∉ ts → σ'[j]? = σ[j]?) → Q σ' H
structure WG (X : Cx) (ts : List Nat) (tg : Expr) (h : PV → M Unit) : Prop where
  pg : PG X tg (tG X.K ts h)
structure WGs (X : Cx) (ts : List Nat) (tg : List Expr) (h : List PV → M Unit) : Prop where
  pg : PGs X tg (tGs X.K ts h)
def put (i : Nat) (o : Bool) (x : PV) : M Unit := fun ρ => some ((), ρ.set i (some (o, x)))
def putsN : M Unit := pure ()
def putTup (h : List PV → M Unit) : PV → M Unit := fun x => match x with
  | .tup xs => h xs
  | _ => bad
def putNil : List PV → M Unit := fun xs => match xs with
  | [] => pure ()
  | _ => bad
def putCons (h : PV → M Unit) (t : List PV → M Unit) : List PV → M Unit := fun xs => match xs with
  | x :: r => h x >>= fun _ => t r
  | _ => bad
theorem Step.put {ρ : Env} {Hf : Hp} {σ : Sl} {H : Hp} {i : Nat} {v' : V} {x : PV} : Step ρ Hf σ H (ρ.set i (some (false, x))) Hf (σ.set i (some v')) H where
  sub := .rfl'
  keep := fun _ _ h _ => h
  new := fun _ h => .inl h
  own := fun b ⟨j, y, h1, h2⟩ => by
    rcases getSet h1 with ⟨rfl, e2, _⟩ | ⟨ne, e2⟩
    · cases e2
    · rw [List.getElem?_set_ne ne] at h2
      exact .inl ⟨j, y, e2, h2⟩
  there := fun _ h => h
section
variable {X : Cx} {tg e : Expr} {es : List Expr} {ts us : List Nat} {h : PV → M Unit} {t : List PV → M Unit} {pos : Pos}
theorem pgWeak {g g' : TG} (p : PG X tg g) (k : ∀ v σ H Q, σ.length = X.N.length → g' v σ H Q → g v σ H Q) : PG X tg g' := ⟨fun pins s σ H v u Q I r q => p.run pins s σ H v u Q I r (k v σ H Q I.len q)⟩
theorem pgsWeak {g g' : TGs} (p : PGs X es g) (k : ∀ v σ H Q, g' v σ H Q → g v σ H Q) : PGs X es g' := ⟨fun pins s σ H v u Q I r q => p.run pins s σ H v u Q I r (k v σ H Q q)⟩
theorem wg_name (i : Nat) {x : Str} (hN : X.N.Nodup) (hi : X.N[i]? = some x := by rfl) (hx : Loc X.env.scope x := by first | exact Or.inl rfl | exact Or.inr rfl) (hf : X.fn x = true ∨ X.env.scope.names.lookup x = some .local := by first | exact .inl rfl | exact .inr rfl | assumption) : WG X [i] (.Name x pos) (put i false) :=
  ⟨pgWeak (pg_name hN hi hx hf) fun v σ H Q hl ⟨ρ, Hf, x, r, rep, w⟩ => by
    have hlen : i < σ.length := by rw [hl]; exact (List.getElem?_eq_some_iff.mp hi).1
    have w : ∀ σ', R X.K (ρ.set i (some (false, x))) Hf σ' H → Step ρ Hf σ H (ρ.set i (some (false, x))) Hf σ' H → σ'.length = σ.length → (∀ j, j ∉ [i] → σ'[j]? = σ[j]?) → Q σ' H := w
    refine w _ (r.setF hlen rep) .put (by simp) fun j hj => ?_
    rw [List.getElem?_set_ne]
    intro e; subst e; exact hj (by simp)⟩
theorem wgs_nil : WGs X [] [] putNil := ⟨pgsWeak pgs_nil fun vs σ H Q ⟨ρ, Hf, xs, r, rep, w⟩ => by
  cases xs with
  | nil => exact ⟨rep.nil_inv, wp_pure.mp w σ r .rfl' rfl fun _ _ => rfl⟩
  | cons _ _ => exact w.elim⟩
theorem wgs_cons (h1 : WG X ts e h) (h2 : WGs X us es t) (hs : (assignEach (e :: es) X.env).map (·.2) = assign e X.env :: (assignEach es X.env).map (·.2) := by rfl) : WGs X (ts ++ us) (e :: es) (putCons h t) := ⟨pgsWeak (pgs_cons h1.pg h2.pg hs) fun vs σ H Q ⟨ρ, Hf, xs, r, rep, w⟩ => by
  cases xs with
  | nil => exact w.elim
  | cons x xs =>
    obtain ⟨v, vr, rfl, p1, p2⟩ := rep.cons_inv
    refine ⟨v, vr, rfl, ρ, Hf, x, r, p1, ?_⟩
    have w : wp (h x >>= fun _ => t xs) ρ _ := w
    rw [wp_bind] at w
    refine wp_mono w fun _ ρ1 w σ1 r1 s1 l1 k1 => ?_
    refine ⟨ρ1, Hf, xs, r1, p2, wp_mono w fun _ ρ2 w σ2 r2 s2 l2 k2 => ?_⟩
    exact w σ2 r2 (s1.trans s2) (l2.trans l1) fun j hj => (k2 j (fun z => hj (List.mem_append_right _ z))).trans (k1 j fun z => hj (List.mem_append_left _ z))⟩
theorem wg_tup {k n : Nat} (hc : X.calm = true) (hw : WGs X ts es t) (hn : (assignEach es X.env).length = n := by rfl) (hst : (assignEach es X.env).findIdx? (·.1) = none := by rfl)
    (hlen : ∀ xs ρ r, t xs ρ = some r → xs.length = n) : WG X ts (.Tuple es k pos) (putTup t) := ⟨pgWeak (pg_tup hc hw.pg hn hst) fun v σ H Q _ ⟨ρ, Hf, x, r, rep, w⟩ => by
  cases x with
  | tup xs =>
    unfold Rep at rep
    obtain ⟨a, vs, rfl, ha, ra⟩ := rep
    have w : wp (t xs) ρ _ := w
    refine ⟨a, vs, rfl, SqT.of (r.sub.tup ha), ?_, ρ, Hf, xs, r, ra, w⟩
    obtain ⟨u, ρ1, e, _⟩ := wp_iff.mp w
    rw [ra.length]
    exact hlen xs ρ _ e
  | _ => exact w.elim⟩
theorem putNil_len {xs : List PV} {ρ : Env} {r : Unit × Env} (h : putNil xs ρ = some r) : xs.length = 0 := by
  cases xs with
  | nil => rfl
  | cons _ _ => cases h
theorem putCons_len {n : Nat} (ht : ∀ xs ρ r, t xs ρ = some r → xs.length = n) {xs : List PV} {ρ : Env} {r : Unit × Env} (q : putCons h t xs ρ = some r) : xs.length = n + 1 := by
  cases xs with
  | nil => cases q
  | cons x xs =>
    have q : (h x >>= fun _ => t xs) ρ = some r := q
    rw [bind_eq] at q
    cases e : h x ρ with
    | none => rw [e] at q; cases q
    | some z => rw [e] at q; rw [List.length_cons, ht _ _ _ q]
end
end MC
set_option Elab.async false
set_option linter.all false
set_option maxRecDepth 100000
set_option maxHeartbeats 4000000
namespace MC
open PySem PySem.Spec L2
open PyProof.Rows (b2i)

/-! ### comprehensions -/
def clear : List Nat → Env → Env
  | [], ρ => ρ
  | v :: vs, ρ => (clear vs ρ).set v none
def plainAt (ρ : Env) (i : Nat) : Option (Bool × PV) := match ρ[i]? with
  | some (some (false, x)) => some (false, x)
  | _ => none
def restore (ρ0 : Env) : List Nat → Env → Env
  | [], ρ => ρ
  | v :: vs, ρ => (restore ρ0 vs ρ).set v (plainAt ρ0 v)
def clr (vs : List Nat) : M Unit := fun ρ => some ((), clear vs ρ)
def lcLoop (vs : List Nat) (h : PV → M Unit) (ft : M Bool) (fe : M PV) : List PV → M (List PV)
  | [] => pure []
  | x :: xs => h x >>= fun _ => ft >>= fun b => if b = true then fe >>= fun y => clr vs >>= fun _ => lcLoop vs h ft fe xs >>= fun ys => pure (y :: ys) else clr vs >>= fun _ => lcLoop vs h ft fe xs
def within {α : Type} (vs : List Nat) (f : M α) : M α := fun ρ => match f (clear vs ρ) with
  | some (a, ρ2) => some (a, restore ρ vs ρ2)
  | none => none
def lcM (fi : M (List PV)) (vs : List Nat) (h : PV → M Unit) (ft : M Bool) (fe : M PV) : M OV := fi >>= fun xs => within vs (lcLoop vs h ft fe xs) >>= fun ys => lift (when (fits ys.length) (some (true, .lst ys)))
section
variable {ρ ρ' ρ0 : Env} {σ σ' : Sl}
theorem clear_some : ∀ {vs : List Nat} {i : Nat} {x : Bool × PV}, (clear vs ρ)[i]? = some (some x) → ρ[i]? = some (some x) ∧ i ∉ vs
  | [], _, _, h => ⟨h, by simp⟩
  | v :: vs, i, x, h => by
    unfold clear at h
    rcases getSet h with ⟨_, e, _⟩ | ⟨ne, e⟩
    · cases e
    · obtain ⟨h1, h2⟩ := clear_some e
      exact ⟨h1, by simp only [List.mem_cons, not_or]; exact ⟨fun z => ne z.symm, h2⟩⟩
theorem restore_some : ∀ {vs : List Nat} {i : Nat} {x : Bool × PV}, (restore ρ0 vs ρ)[i]? = some (some x) → (i ∈ vs ∧ x.1 = false ∧ ρ0[i]? = some (some x)) ∨ (i ∉ vs ∧ ρ[i]? = some (some x))
  | [], _, _, h => .inr ⟨by simp, h⟩
  | v :: vs, i, x, h => by
    unfold restore at h
    rcases getSet h with ⟨e1, e2, _⟩ | ⟨ne, e⟩
    · subst e1
      unfold plainAt at e2
      split at e2
      · rename_i y hy
        have e2 := Option.some.inj e2
        subst e2
        exact .inl ⟨by simp, rfl, hy⟩
      · cases e2
    · rcases restore_some e with ⟨a, b⟩ | ⟨a, b⟩
      · exact .inl ⟨List.mem_cons_of_mem _ a, b⟩
      · exact .inr ⟨by simp only [List.mem_cons, not_or]; exact ⟨fun z => ne z.symm, a⟩, b⟩
theorem wipe_get : ∀ {vs : List Nat} (i : Nat), (wipe σ vs)[i]? = if i ∈ vs ∧ i < σ.length then some none else σ[i]?
  | [], i => by simp [wipe]
  | v :: vs, i => by
    unfold wipe
    by_cases e : v = i
    · subst e
      by_cases hl : v < σ.length
      · rw [List.getElem?_set_self (by rw [wipe_length]; exact hl), if_pos ⟨by simp, hl⟩]
      · rw [List.getElem?_eq_none (by rw [List.length_set, wipe_length]; omega), if_neg (fun h => hl h.2), List.getElem?_eq_none (by omega)]
    · rw [List.getElem?_set_ne e, wipe_get i]
      have : (i ∈ v :: vs) ↔ i ∈ vs := by
        rw [List.mem_cons]
        exact ⟨fun h => h.elim (fun z => absurd z.symm e) id, .inr⟩
      simp only [this]
theorem wipe_same {vs : List Nat} (hl : σ'.length = σ.length) (h : ∀ j, j ∉ vs → σ'[j]? = (wipe σ vs)[j]?) : wipe σ' vs = wipe σ vs := by
  apply List.ext_getElem?
  intro j
  rw [wipe_get, wipe_get, hl]
  by_cases hj : j ∈ vs
  · by_cases h2 : j < σ.length
    · rw [if_pos ⟨hj, h2⟩, if_pos ⟨hj, h2⟩]
    · rw [if_neg (fun z => h2 z.2), if_neg (fun z => h2 z.2), List.getElem?_eq_none (by omega), List.getElem?_eq_none (by omega)]
  · rw [if_neg (fun z => hj z.1), if_neg (fun z => hj z.1), h j hj, wipe_get, if_neg (fun z => hj z.1)]
end
section
variable {K : PySem.W.Frag} {ρ ρ0 ρ1 ρ2 : Env} {Hf Hf0 Hf1 Hf2 : Hp} {σ σ0 σ1 σ2 : Sl} {H H0 H1 H2 : Hp} {vs : List Nat}
/-- an object at the side changes -/
theorem R.side (r : R K ρ Hf σ H) {D : Addr} {o : HO} (n : Hf D = none) (no : ¬ Own ρ σ D) : R K ρ Hf σ (upd H D o) where
  sub := fun a u e => by
    have : a ≠ D := fun z => by rw [z, n] at e; cases e
    rw [upd_ne this]; exact r.sub a u e
  vars := fun i b v e => by
    obtain ⟨v', s, h1, h2⟩ := r.vars i b v e
    refine ⟨v', s, h1, fun z => ?_⟩
    obtain ⟨p, ob, rfl, a1, a2, a3⟩ := h2 z
    subst z
    have : p ≠ D := fun z => no (z ▸ ⟨i, v, e, s⟩)
    exact ⟨p, ob, rfl, a1, by rw [upd_ne this]; exact a2, a3⟩
  dist := r.dist
theorem Step.side (s : Step ρ0 Hf0 σ0 H0 ρ Hf σ H) {D : Addr} {o : HO} (n : H0 D = none) : Step ρ0 Hf0 σ0 H0 ρ Hf σ (upd H D o) where
  sub := s.sub
  keep := fun b u e no => by
    rw [upd_ne (ne_of_none e n)]; exact s.keep b u e no
  new := s.new
  own := s.own
  there := fun b hb => by
    have : b ≠ D := fun z => hb (z ▸ n)
    rw [upd_ne this]; exact s.there b hb
theorem Own.clear {b : Addr} (h : ∀ j, j ∉ vs → σ1[j]? = σ[j]?) (o : Own (clear vs ρ) σ1 b) : Own ρ σ b := by
  obtain ⟨i, v, e, s⟩ := o
  obtain ⟨e1, e2⟩ := clear_some e
  exact ⟨i, v, e1, by rw [← h i e2]; exact s⟩
theorem R.clear (r : R K ρ Hf σ H) (h : ∀ j, j ∉ vs → σ1[j]? = σ[j]?) : R K (clear vs ρ) Hf σ1 H := r.less fun i x e => by
  obtain ⟨e1, e2⟩ := clear_some e
  exact ⟨e1, h i e2⟩
theorem Step.clear (h : ∀ j, j ∉ vs → σ1[j]? = σ[j]?) : Step ρ Hf σ H (clear vs ρ) Hf σ1 H := ⟨.rfl', fun _ _ e _ => e, fun _ e => .inl e, fun _ o => .inl (Own.clear h o), fun _ e => e⟩
theorem wipe_off : ∀ j, j ∉ vs → (wipe σ vs)[j]? = σ[j]? := fun j hj => by rw [wipe_get, if_neg (fun z => hj z.1)]
theorem R.restore (r0 : R K ρ0 Hf0 σ H0) (r : R K ρ Hf (wipe σ vs) H) (s : Bel Hf0 Hf) : R K (restore ρ0 vs ρ) Hf σ H where
  sub := r.sub
  vars := fun i o v e => by
    rcases restore_some e with ⟨_, eo, e1⟩ | ⟨hj, e1⟩
    · cases eo
      obtain ⟨v', s', h1, _⟩ := r0.vars i false v e1
      exact ⟨v', s', fun _ => (h1 rfl).sub s, fun z => nomatch z⟩
    · obtain ⟨v', s', h⟩ := r.vars i o v e1
      exact ⟨v', by rw [← wipe_off (σ := σ) i hj]; exact s', h⟩
  dist := fun i j v w b h1 h2 h3 h4 => by
    rcases restore_some h1 with ⟨_, eo, _⟩ | ⟨hi, e1⟩
    · cases eo
    · rcases restore_some h2 with ⟨_, eo, _⟩ | ⟨hj, e2⟩
      · cases eo
      · exact r.dist i j v w b e1 e2 (by rw [wipe_off i hi]; exact h3) (by rw [wipe_off j hj]; exact h4)
theorem Own.restore {b : Addr} (o : Own (restore ρ0 vs ρ) σ b) : Own ρ (wipe σ vs) b := by
  obtain ⟨i, v, e, s⟩ := o
  rcases restore_some e with ⟨_, eo, _⟩ | ⟨hi, e1⟩
  · cases eo
  · exact ⟨i, v, e1, by rw [wipe_off i hi]; exact s⟩
theorem Step.restore (s : Step (MC.clear vs ρ0) Hf0 (wipe σ vs) H0 ρ Hf (wipe σ vs) H) : Step ρ0 Hf0 σ H0 (restore ρ0 vs ρ) Hf σ H where
  sub := s.sub
  keep := fun b o e n => s.keep b o e fun w => n (Own.clear (fun j hj => wipe_off j hj) w)
  new := fun b e => (s.new b e).imp id (Or.imp (fun w => Own.clear (fun j hj => wipe_off j hj) w) id)
  own := fun b o => (s.own b o.restore).imp (fun w => Own.clear (fun j hj => wipe_off j hj) w) id
  there := s.there
end
/-- the tests of a clause -/
structure WTs (X : Cx) (ifs : List Expr) (f : M Bool) : Prop where
  pt : PTs X ifs (tT X.K f)
section
variable {X : Cx} {e : Expr} {f : M Bool}
theorem wts_nil : WTs X [] (pure true) := ⟨⟨fun pins s σ H Q I ⟨ρ, Hf, r, w⟩ => pts_nil.run pins s σ H Q I (wp_pure.mp w Hf H r .rfl')⟩⟩
theorem wts_one (h : WT X e f) : WTs X [e] f := ⟨pts_one h.pt⟩
end
section
variable {K : PySem.W.Frag} {fi fi1 : M (List PV)} {vs ts vs1 ts1 : List Nat} {h h1 : PV → M Unit} {ft ft1 : M Bool} {fe : M PV} {σ : Sl} {H : Hp} {Q : VK}
/-- between two turns: the new list at D holds acc, the rest gives ys -/
structure LcInv (K : PySem.W.Frag) (ρ1 : Env) (Hf1 : Hp) (H1 : Hp) (σw : Sl) (D : Addr) (acc : List PV) (ρ : Env) (Hf : Hp) (H : Hp) : Prop where
  r : R K ρ Hf σw H
  s : Step ρ1 Hf1 σw H1 ρ Hf σw H
  at_ : ∃ us, H D = some (.lst us) ∧ Reps K Hf us acc
  no : Hf D = none
  un : ¬ Own ρ σw D
/-- what is true of D stays so through a step -/
theorem lc_keep {ρ ρ' : Env} {Hf Hf' : Hp} {σ σ' : Sl} {H H' : Hp} {D : Addr} {us : List V} (s : Step ρ Hf σ H ρ' Hf' σ' H') (a : H D = some (.lst us)) (n : Hf D = none) (u : ¬ Own ρ σ D) : H' D = some (.lst us) ∧ Hf' D = none ∧ ¬ Own ρ' σ' D := by
  refine ⟨s.keep D _ a u, Classical.byContradiction fun z => ?_, fun z => ?_⟩
  · rcases s.new D z with w | w | w
    · exact w n
    · exact u w
    · rw [a] at w; cases w
  · rcases s.own D z with w | w
    · exact u w
    · rw [a] at w; cases w
theorem readLc (hts : ∀ j ∈ ts, j ∈ vs) (hq : tE K (lcM fi vs h ft fe) σ H Q) : tLc (tI K fi) (tG K ts h) (tT K ft) (tF K fe) vs σ H Q := by
  obtain ⟨ρ0, Hf0, r0, w⟩ := hq
  unfold lcM at w
  rw [wp_bind] at w
  refine ⟨ρ0, Hf0, r0, wp_mono w fun xs ρ1 w J Hf1 H1 it r1 s1 D hD => ?_⟩
  rw [wp_bind] at w
  obtain ⟨ys, ρr, ew, w⟩ := wp_iff.mp w
  rw [wp_lift] at w
  obtain ⟨z, ez, k⟩ := w
  obtain ⟨c, ez⟩ := when_some ez
  cases ez
  have c := of_decide_eq_true c
  unfold within at ew
  cases el : lcLoop vs h ft fe xs (clear vs ρ1) with
  | none => rw [el] at ew; cases ew
  | some q =>
  obtain ⟨ys', ρ2⟩ := q
  rw [el] at ew
  cases ew
  obtain ⟨G, Y, W, hG, hY⟩ := it
  have hD1 : Hf1 D = none := Classical.byContradiction fun z => (r1.sub.some_ z) hD
  have un1 : ¬ Own (clear vs ρ1) (wipe σ vs) D := fun o => by
    obtain ⟨_, ob, e, _⟩ := (Own.clear (fun j hj => wipe_off j hj) o).slot r1
    rw [hD] at e; cases e
  have rc : R K (clear vs ρ1) Hf1 (wipe σ vs) H1 := r1.clear fun j hj => wipe_off j hj
  refine lc_it W (fun i H => ∃ ρ Hf acc zs, LcInv K (clear vs ρ1) Hf1 H1 (wipe σ vs) D acc ρ Hf H ∧ lcLoop vs h ft fe (xs.drop i) ρ = some (zs, ρ2) ∧ acc ++ zs = ys) ?_ ?_ ?_ ?_
  · exact ⟨clear vs ρ1, Hf1, [], ys, ⟨rc.side hD1 un1, Step.rfl'.side hD, ⟨[], upd_same, .nil⟩, hD1, un1⟩, by simpa using el, rfl⟩
  · rintro i H2 _ ⟨ρ, Hf, acc, zs, L, _⟩
    exact hG H2 (L.s.sub.trans L.r.sub)
  · rintro i v H2 H3 hi ⟨ρ, Hf, acc, zs, L, el2, ea⟩ y
    have ex : xs[i]? = some xs[i] := by simp [hi]
    rw [List.drop_eq_getElem_cons hi] at el2
    obtain ⟨us, hus, rus⟩ := L.at_
    have res := hY i xs[i] H2 H3 v Hf ex L.s.sub L.r.sub y
    obtain ⟨Hf3, r3, s3, ro, _⟩ := res.use L.r
    obtain ⟨k1, k2, k3⟩ := lc_keep s3 hus L.no L.un
    have w2 : wp (lcLoop vs h ft fe (xs[i] :: xs.drop (i + 1))) ρ fun zs' ρ' => zs' = zs ∧ ρ' = ρ2 := wp_some el2 ⟨rfl, rfl⟩
    unfold lcLoop at w2
    rw [wp_bind] at w2
    refine ⟨ρ, Hf3, xs[i], r3, ro, wp_mono w2 fun _ ρ4 w2 σ4 r4 s4 l4 o4 => ?_⟩
    have off : ∀ j, j ∉ vs → σ4[j]? = (wipe σ vs)[j]? := fun j hj => o4 j fun z => hj (hts j z)
    refine ⟨wipe_same (l4.trans (wipe_length _ _)) off, ?_⟩
    obtain ⟨m1, m2, m3⟩ := lc_keep s4 k1 k2 k3
    rw [wp_bind] at w2
    refine ⟨ρ4, Hf3, r4, wp_mono w2 fun b ρ5 w2 Hf5 H5 r5 s5 => ?_⟩
    obtain ⟨n1, n2, n3⟩ := lc_keep s5 m1 m2 m3
    have s15 := ((L.s.trans s3).trans s4).trans s5
    have off' : ∀ j, j ∉ vs → (wipe σ vs)[j]? = σ4[j]? := fun j hj => (off j hj).symm
    cases b with
    | true =>
      rw [if_pos rfl] at w2 ⊢
      rw [wp_bind] at w2
      refine ⟨ρ5, Hf5, r5, wp_mono w2 fun yv ρ6 w2 v6 Hf6 H6 r6 s6 p6 => ?_⟩
      obtain ⟨q1, q2, q3⟩ := lc_keep s6 n1 n2 n3
      rw [wp_bind] at w2
      have w2 : wp (lcLoop vs h ft fe (xs.drop (i + 1)) >>= fun ys => pure (yv :: ys)) (clear vs ρ6) _ := w2
      rw [wp_bind] at w2
      obtain ⟨zs2, ρ7, e7, w2⟩ := wp_iff.mp w2
      obtain ⟨ez2, er⟩ := wp_pure.mp w2
      subst ez2; subst er
      have lens : acc.length + (zs2.length + 1) ≤ sizeLine := by
        have := congrArg List.length ea
        simp only [List.length_append, List.length_cons] at this
        omega
      refine ⟨us, q1, by rw [rus.length]; omega, clear vs ρ6, Hf6, acc ++ [yv], zs2, ⟨?_, ?_, ⟨us ++ [v6], upd_same, ?_⟩, q2, ?_⟩, e7, by rw [List.append_assoc]; exact ea⟩
      · exact (r6.clear off').side q2 fun o => q3 (Own.clear off' o)
      · exact ((s15.trans s6).trans (.clear off')).side hD
      · exact (rus.sub ((s3.sub.trans s5.sub).trans s6.sub)).append (.cons p6 .nil)
      · exact fun o => q3 (Own.clear off' o)
    | false =>
      rw [if_neg Bool.false_ne_true] at w2 ⊢
      rw [wp_bind] at w2
      have w2 : wp (lcLoop vs h ft fe (xs.drop (i + 1))) (clear vs ρ5) _ := w2
      obtain ⟨zs2, ρ7, e7, ez2, er⟩ := wp_iff.mp w2
      subst ez2; subst er
      exact ⟨clear vs ρ5, Hf5, acc, zs2, ⟨r5.clear off', s15.trans (.clear off'), ⟨us, n1, rus.sub (s3.sub.trans s5.sub)⟩, n2, fun o => n3 (Own.clear off' o)⟩, e7, ea⟩
  · rintro H2 ⟨ρ, Hf, acc, zs, L, el2, ea⟩
    rw [List.drop_length] at el2
    have el2 : some (([] : List PV), ρ) = some (zs, ρ2) := el2
    cases el2
    rw [List.append_nil] at ea
    subst ea
    obtain ⟨us, hus, rus⟩ := L.at_
    refine k (.ref D) Hf H2 (R.restore r1 L.r L.s.sub) (s1.trans (Step.restore L.s)) ⟨D, _, rfl, L.no, hus, ⟨us, rfl, rus⟩, fun o => L.un o.restore⟩ fun _ p e => ?_
    cases e
    exact Classical.byContradiction fun n => s1.there D n hD
/-- two clauses -/
def lc2Loop (vs vs1 : List Nat) (h : PV → M Unit) (ft : M Bool) (fi1 : M (List PV)) (h1 : PV → M Unit) (ft1 : M Bool) (fe : M PV) : List PV → M (List PV)
  | [] => pure []
  | x :: xs => h x >>= fun _ => ft >>= fun b => if b = true then fi1 >>= fun xs1 => clr vs1 >>= fun _ => lcLoop vs1 h1 ft1 fe xs1 >>= fun ys => clr vs >>= fun _ => lc2Loop vs vs1 h ft fi1 h1 ft1 fe xs >>= fun zs => pure (ys ++ zs) else clr vs >>= fun _ => lc2Loop vs vs1 h ft fi1 h1 ft1 fe xs
def lc2M (fi : M (List PV)) (vs vs1 : List Nat) (h : PV → M Unit) (ft : M Bool) (fi1 : M (List PV)) (h1 : PV → M Unit) (ft1 : M Bool) (fe : M PV) : M OV := fi >>= fun xs => within vs (lc2Loop vs vs1 h ft fi1 h1 ft1 fe xs) >>= fun ys => lift (when (fits ys.length) (some (true, .lst ys)))
/-- a walk inside a comprehension, from any heap -/
theorem lc_in {J : It} {n : Nat} {G : Hp → Prop} {Y : Nat → Hp → V → Hp → Prop} (w : Walk J n G Y) {g : TG} {tt : TT} {te : TE} {vs : List Nat} {σ : Sl} {H1 : Hp} {D : Addr} {Qd : Hp → Prop} (Pv : Nat → Hp → Prop) (h0 : Pv 0 H1) (hG : ∀ i H, i ≤ n → Pv i H → G H)
    (hs : ∀ i x H H', i < n → Pv i H → Y i H x H' → g x (wipe σ vs) H' fun σ2 H2 => wipe σ2 vs = wipe σ vs ∧ tt σ2 H2 fun b H3 =>
      if b = true then te σ2 H3 fun y H4 => ∃ acc, H4 D = some (.lst acc) ∧ acc.length < sizeLine ∧ Pv (i + 1) (upd H4 D (.lst (acc ++ [y]))) else Pv (i + 1) H3) (hd : ∀ H, Pv n H → Qd H) :
    ∃ W : Nat → Nat → Hp → Prop, (∃ m, W 0 m H1) ∧ ∀ i m H, W i m H →
      (J.stop i H ∧ Qd H) ∨ (J.go i H ∧ ∃ Nx : Hp → Prop, (∀ H', Nx H' → ∃ m', m' < m ∧ W (i + 1) m' H') ∧ ∀ x H', J.yld i H x H' → g x (wipe σ vs) H' fun σ2 H2 => wipe σ2 vs = wipe σ vs ∧ tt σ2 H2 fun b H3 =>
        if b = true then te σ2 H3 fun y H4 => ∃ acc, H4 D = some (.lst acc) ∧ acc.length < sizeLine ∧ Nx (upd H4 D (.lst (acc ++ [y]))) else Nx H3) := by
  refine ⟨fun i m H => m = n - i ∧ i ≤ n ∧ Pv i H, ⟨n, by simp, Nat.zero_le _, h0⟩, fun i m H ⟨em, hi, p⟩ => ?_⟩
  subst em
  by_cases hlt : i < n
  · exact .inr ⟨w.goes i H hlt (hG i H hi p), Pv (i + 1), fun H' p' => ⟨n - (i + 1), by omega, rfl, hlt, p'⟩, fun x H' y => hs i x H H' hlt p (w.yields i H x H' hlt (hG i H hi p) y)⟩
  · have e : i = n := by omega
    subst e
    exact .inl ⟨w.stops H (hG i H hi p), hd H p⟩
/-- one turn's rest: test and element -/
theorem lc_turn {σw : Sl} {D : Addr} {ρ1 ρ2 : Env} {Hf1 H1 : Hp} {xs : List PV} {ys acc zs : List PV} {ρ : Env} {Hf : Hp} {H2 H3 : Hp} {v : V} {x : PV} {σ0 : Sl} (hD : H1 D = none) (hts : ∀ j ∈ ts, j ∈ vs) (hσ : σw = wipe σ0 vs)
    (L : LcInv K ρ1 Hf1 H1 σw D acc ρ Hf H2) (res : Res1 K Hf H2 v H3 (false, x)) (el2 : lcLoop vs h ft fe (x :: xs) ρ = some (zs, ρ2)) (ea : acc ++ zs = ys) (c : ys.length ≤ sizeLine) {Nx : Hp → Prop}
    (hN : ∀ ρ' Hf' acc' zs' H', LcInv K ρ1 Hf1 H1 σw D acc' ρ' Hf' H' → lcLoop vs h ft fe xs ρ' = some (zs', ρ2) → acc' ++ zs' = ys → Nx H') :
    tG K ts h v σw H3 fun σ2 H2 => wipe σ2 vs = wipe σ0 vs ∧ tT K ft σ2 H2 fun b H3 => if b = true then tF K fe σ2 H3 fun y H4 => ∃ acc, H4 D = some (.lst acc) ∧ acc.length < sizeLine ∧ Nx (upd H4 D (.lst (acc ++ [y]))) else Nx H3 := by
  subst hσ
  obtain ⟨us, hus, rus⟩ := L.at_
  obtain ⟨Hf3, r3, s3, ro, _⟩ := res.use L.r
  obtain ⟨k1, k2, k3⟩ := lc_keep s3 hus L.no L.un
  have w2 : wp (lcLoop vs h ft fe (x :: xs)) ρ fun zs' ρ' => zs' = zs ∧ ρ' = ρ2 := wp_some el2 ⟨rfl, rfl⟩
  unfold lcLoop at w2
  rw [wp_bind] at w2
  refine ⟨ρ, Hf3, x, r3, ro, wp_mono w2 fun _ ρ4 w2 σ4 r4 s4 l4 o4 => ?_⟩
  have off : ∀ j, j ∉ vs → σ4[j]? = (wipe σ0 vs)[j]? := fun j hj => o4 j fun z => hj (hts j z)
  refine ⟨wipe_same (l4.trans (wipe_length _ _)) off, ?_⟩
  obtain ⟨m1, m2, m3⟩ := lc_keep s4 k1 k2 k3
  rw [wp_bind] at w2
  refine ⟨ρ4, Hf3, r4, wp_mono w2 fun b ρ5 w2 Hf5 H5 r5 s5 => ?_⟩
  obtain ⟨n1, n2, n3⟩ := lc_keep s5 m1 m2 m3
  have s15 := ((L.s.trans s3).trans s4).trans s5
  have off' : ∀ j, j ∉ vs → (wipe σ0 vs)[j]? = σ4[j]? := fun j hj => (off j hj).symm
  cases b with
  | true =>
    rw [if_pos rfl] at w2 ⊢
    rw [wp_bind] at w2
    refine ⟨ρ5, Hf5, r5, wp_mono w2 fun yv ρ6 w2 v6 Hf6 H6 r6 s6 p6 => ?_⟩
    obtain ⟨q1, q2, q3⟩ := lc_keep s6 n1 n2 n3
    rw [wp_bind] at w2
    have w2 : wp (lcLoop vs h ft fe xs >>= fun ys => pure (yv :: ys)) (clear vs ρ6) _ := w2
    rw [wp_bind] at w2
    obtain ⟨zs2, ρ7, e7, w2⟩ := wp_iff.mp w2
    obtain ⟨ez2, er⟩ := wp_pure.mp w2
    subst ez2; subst er
    have lens : acc.length + (zs2.length + 1) ≤ sizeLine := by
      have := congrArg List.length ea
      simp only [List.length_append, List.length_cons] at this
      omega
    refine ⟨us, q1, by rw [rus.length]; omega, hN (clear vs ρ6) Hf6 (acc ++ [yv]) zs2 _ ⟨?_, ?_, ⟨us ++ [v6], upd_same, ?_⟩, q2, ?_⟩ e7 (by rw [List.append_assoc]; exact ea)⟩
    · exact (r6.clear off').side q2 fun o => q3 (Own.clear off' o)
    · exact ((s15.trans s6).trans (.clear off')).side hD
    · exact (rus.sub ((s3.sub.trans s5.sub).trans s6.sub)).append (.cons p6 .nil)
    · exact fun o => q3 (Own.clear off' o)
  | false =>
    rw [if_neg Bool.false_ne_true] at w2 ⊢
    rw [wp_bind] at w2
    have w2 : wp (lcLoop vs h ft fe xs) (clear vs ρ5) _ := w2
    obtain ⟨zs2, ρ7, e7, ez2, er⟩ := wp_iff.mp w2
    subst ez2; subst er
    exact hN (clear vs ρ5) Hf5 acc zs2 _ ⟨r5.clear off', s15.trans (.clear off'), ⟨us, n1, rus.sub (s3.sub.trans s5.sub)⟩, n2, fun o => n3 (Own.clear off' o)⟩ e7 ea
theorem readLc2 (hts : ∀ j ∈ ts, j ∈ vs) (hts1 : ∀ j ∈ ts1, j ∈ vs1) (hv1 : ∀ j ∈ vs1, j ∈ vs) (hq : tE K (lc2M fi vs vs1 h ft fi1 h1 ft1 fe) σ H Q) : tLc2 (tI K fi) (tG K ts h) (tT K ft) (tI K fi1) (tG K ts1 h1) (tT K ft1) (tF K fe) vs vs1 σ H Q := by
  obtain ⟨ρ0, Hf0, r0, w⟩ := hq
  unfold lc2M at w
  rw [wp_bind] at w
  refine ⟨ρ0, Hf0, r0, wp_mono w fun xs ρ1 w J Hf1 H1 it r1 s1 D hD => ?_⟩
  rw [wp_bind] at w
  obtain ⟨ys, ρr, ew, w⟩ := wp_iff.mp w
  rw [wp_lift] at w
  obtain ⟨z, ez, k⟩ := w
  obtain ⟨c, ez⟩ := when_some ez
  cases ez
  have c : ys.length ≤ sizeLine := of_decide_eq_true c
  unfold within at ew
  cases el : lc2Loop vs vs1 h ft fi1 h1 ft1 fe xs (clear vs ρ1) with
  | none => rw [el] at ew; cases ew
  | some q =>
  obtain ⟨ys', ρ2⟩ := q
  rw [el] at ew
  cases ew
  obtain ⟨G, Y, W, hG, hY⟩ := it
  have hD1 : Hf1 D = none := Classical.byContradiction fun z => (r1.sub.some_ z) hD
  have un1 : ¬ Own (clear vs ρ1) (wipe σ vs) D := fun o => by
    obtain ⟨_, ob, e, _⟩ := (Own.clear (fun j hj => wipe_off j hj) o).slot r1
    rw [hD] at e; cases e
  have rc : R K (clear vs ρ1) Hf1 (wipe σ vs) H1 := r1.clear fun j hj => wipe_off j hj
  let Pv : Nat → Hp → Prop := fun i H => ∃ ρ Hf acc zs, LcInv K (clear vs ρ1) Hf1 H1 (wipe σ vs) D acc ρ Hf H ∧ lc2Loop vs vs1 h ft fi1 h1 ft1 fe (xs.drop i) ρ = some (zs, ρ2) ∧ acc ++ zs = ys
  refine ⟨fun i m H => m = xs.length - i ∧ i ≤ xs.length ∧ Pv i H, ⟨xs.length, by simp, Nat.zero_le _, ?_⟩, fun i m H2 ⟨em, hi, p⟩ => ?_⟩
  · exact ⟨clear vs ρ1, Hf1, [], ys, ⟨rc.side hD1 un1, Step.rfl'.side hD, ⟨[], upd_same, .nil⟩, hD1, un1⟩, by simpa using el, rfl⟩
  subst em
  have hGp : G H2 := by
    obtain ⟨ρ, Hf, acc, zs, L, _⟩ := p
    exact hG H2 (L.s.sub.trans L.r.sub)
  by_cases hlt : i < xs.length
  · refine .inr ⟨W.goes i H2 hlt hGp, Pv (i + 1), fun H' p' => ⟨xs.length - (i + 1), by omega, rfl, hlt, p'⟩, fun v H3 yl => ?_⟩
    have y := W.yields i H2 v H3 hlt hGp yl
    obtain ⟨ρ, Hf, acc, zs, L, el2, ea⟩ := p
    have ex : xs[i]? = some xs[i] := by simp [hlt]
    rw [List.drop_eq_getElem_cons hlt] at el2
    obtain ⟨us, hus, rus⟩ := L.at_
    have res := hY i xs[i] H2 H3 v Hf ex L.s.sub L.r.sub y
    obtain ⟨Hf3, r3, s3, ro, _⟩ := res.use L.r
    obtain ⟨k1, k2, k3⟩ := lc_keep s3 hus L.no L.un
    have w2 : wp (lc2Loop vs vs1 h ft fi1 h1 ft1 fe (xs[i] :: xs.drop (i + 1))) ρ fun zs' ρ' => zs' = zs ∧ ρ' = ρ2 := wp_some el2 ⟨rfl, rfl⟩
    unfold lc2Loop at w2
    rw [wp_bind] at w2
    refine ⟨ρ, Hf3, xs[i], r3, ro, wp_mono w2 fun _ ρ4 w2 σ4 r4 s4 l4 o4 => ?_⟩
    have off : ∀ j, j ∉ vs → σ4[j]? = (wipe σ vs)[j]? := fun j hj => o4 j fun z => hj (hts j z)
    refine ⟨wipe_same (l4.trans (wipe_length _ _)) off, ?_⟩
    obtain ⟨m1, m2, m3⟩ := lc_keep s4 k1 k2 k3
    rw [wp_bind] at w2
    refine ⟨ρ4, Hf3, r4, wp_mono w2 fun b ρ5 w2 Hf5 H5 r5 s5 => ?_⟩
    obtain ⟨n1, n2, n3⟩ := lc_keep s5 m1 m2 m3
    have s15 := ((L.s.trans s3).trans s4).trans s5
    have off' : ∀ j, j ∉ vs → (wipe σ vs)[j]? = σ4[j]? := fun j hj => (off j hj).symm
    cases b with
    | false =>
      rw [if_neg Bool.false_ne_true] at w2 ⊢
      rw [wp_bind] at w2
      have w2 : wp (lc2Loop vs vs1 h ft fi1 h1 ft1 fe (xs.drop (i + 1))) (clear vs ρ5) _ := w2
      obtain ⟨zs2, ρ7, e7, ez2, er⟩ := wp_iff.mp w2
      subst ez2; subst er
      exact ⟨clear vs ρ5, Hf5, acc, zs2, ⟨r5.clear off', s15.trans (.clear off'), ⟨us, n1, rus.sub (s3.sub.trans s5.sub)⟩, n2, fun o => n3 (Own.clear off' o)⟩, e7, ea⟩
    | true =>
      rw [if_pos rfl] at w2 ⊢
      rw [wp_bind] at w2
      refine ⟨ρ5, Hf5, r5, wp_mono w2 fun xs1 ρ6 w2 J1 Hf6 H6 it1 r6 s6 => ?_⟩
      obtain ⟨q1, q2, q3⟩ := lc_keep s6 n1 n2 n3
      rw [wp_bind] at w2
      have w2 : wp (lcLoop vs1 h1 ft1 fe xs1 >>= fun ys => clr vs >>= fun _ => lc2Loop vs vs1 h ft fi1 h1 ft1 fe (xs.drop (i + 1)) >>= fun zs => pure (ys ++ zs)) (clear vs1 ρ6) _ := w2
      rw [wp_bind] at w2
      obtain ⟨ws, ρ7, e7, w2⟩ := wp_iff.mp w2
      rw [wp_bind] at w2
      have w2 : wp (lc2Loop vs vs1 h ft fi1 h1 ft1 fe (xs.drop (i + 1)) >>= fun zs => pure (ws ++ zs)) (clear vs ρ7) _ := w2
      rw [wp_bind] at w2
      obtain ⟨zs2, ρ8, e8, w2⟩ := wp_iff.mp w2
      obtain ⟨ez2, er⟩ := wp_pure.mp w2
      subst ez2; subst er
      obtain ⟨G1, Y1, W1, hG1, hY1⟩ := it1
      have un6 : ¬ Own (clear vs1 ρ6) (wipe σ4 vs1) D := fun o => q3 (Own.clear (fun j hj => wipe_off j hj) o)
      have r7 : R K (clear vs1 ρ6) Hf6 (wipe σ4 vs1) H6 := r6.clear fun j hj => wipe_off j hj
      have s17 := (s15.trans s6).trans (Step.clear (vs := vs1) (σ1 := wipe σ4 vs1) fun j hj => wipe_off j hj)
      -- inner steps are told from the outer start's heap with D's absence
      have wl : (acc ++ ws).length ≤ sizeLine := by
        have := congrArg List.length ea
        simp only [List.length_append] at this ⊢
        omega
      have L6 : LcInv K (clear vs1 ρ6) Hf6 H1 (wipe σ4 vs1) D acc (clear vs1 ρ6) Hf6 H6 → True := fun _ => trivial
      refine lc_in W1 (fun j H => ∃ ρ' Hf' acc' zs', (R K ρ' Hf' (wipe σ4 vs1) H ∧ Step (clear vs ρ1) Hf1 (wipe σ vs) H1 ρ' Hf' (wipe σ4 vs1) H ∧ Bel Hf6 Hf' ∧ (∃ us, H D = some (.lst us) ∧ Reps K Hf' us acc') ∧ Hf' D = none ∧ ¬ Own ρ' (wipe σ4 vs1) D) ∧ lcLoop vs1 h1 ft1 fe (xs1.drop j) ρ' = some (zs', ρ7) ∧ acc' ++ zs' = acc ++ ws) ?_ ?_ ?_ ?_
      · exact ⟨clear vs1 ρ6, Hf6, acc, ws, ⟨r7, s17, .rfl', ⟨us, q1, rus.sub ((s3.sub.trans s5.sub).trans s6.sub)⟩, q2, un6⟩, by simpa using e7, rfl⟩
      · rintro j H8 _ ⟨ρ', Hf', acc', zs', ⟨a1, a2, a3, _⟩, _⟩
        exact hG1 H8 (a3.trans a1.sub)
      · rintro j v1 H8 H9 hj ⟨ρ', Hf', acc', zs', ⟨a1, a2, a3, ⟨us', a4, a5⟩, a6, a7⟩, el3, ea3⟩ y1
        have ex1 : xs1[j]? = some xs1[j] := by simp [hj]
        rw [List.drop_eq_getElem_cons hj] at el3
        have res1 := hY1 j xs1[j] H8 H9 v1 Hf' ex1 a3 a1.sub y1
        have n8 : H8 D ≠ none := by rw [a4]; simp
        -- told from here: the heap without D
        let Hx : Hp := fun b => if b = D then none else H8 b
        have hx : Hx D = none := by simp [Hx]
        have stp : Step ρ' Hf' (wipe σ4 vs1) Hx ρ' Hf' (wipe σ4 vs1) H8 := by
          refine ⟨.rfl', fun b o e _ => ?_, fun b e => .inl e, fun b o => .inl o, fun b e => ?_⟩
          · by_cases eb : b = D
            · subst eb; rw [hx] at e; cases e
            · simpa [Hx, eb] using e
          · by_cases eb : b = D
            · subst eb; exact absurd hx e
            · simpa [Hx, eb] using e
        refine lc_turn (ρ1 := ρ') (Hf1 := Hf') (H1 := Hx) (zs := zs') hx hts1 rfl ⟨a1, stp, ⟨us', a4, a5⟩, a6, a7⟩ res1 el3 ea3 wl fun ρ9 Hf9 acc9 zs9 H10 L9 e9 ea9 => ?_
        refine ⟨ρ9, Hf9, acc9, zs9, ⟨L9.r, ?_, a3.trans L9.s.sub, L9.at_, L9.no, L9.un⟩, e9, ea9⟩
        -- the whole step: from H1, where D is not
        refine ⟨a2.sub.trans L9.s.sub, fun b o e n => ?_, fun b e => ?_, fun b o => ?_, fun b e => ?_⟩
        · have bD : b ≠ D := ne_of_none e hD
          have e8 := a2.keep b o e n
          refine L9.s.keep b o (by simpa [Hx, bD] using e8) fun ow => ?_
          rcases a2.own b ow with z | z
          · exact n z
          · rw [e] at z; cases z
        · rcases L9.s.new b e with z | z | z
          · exact a2.new b z
          · rcases a2.own b z with z | z
            · exact .inr (.inl z)
            · exact .inr (.inr z)
          · by_cases bD : b = D
            · subst bD; exact .inr (.inr hD)
            · have z : H8 b = none := by simpa [Hx, bD] using z
              exact .inr (.inr (Classical.byContradiction fun n => a2.there b n z))
        · rcases L9.s.own b o with z | z
          · exact a2.own b z
          · by_cases bD : b = D
            · subst bD; exact .inr hD
            · have z : H8 b = none := by simpa [Hx, bD] using z
              exact .inr (Classical.byContradiction fun n => a2.there b n z)
        · have bD : b ≠ D := fun z => e (z ▸ hD)
          have := a2.there b e
          exact L9.s.there b (by simpa [Hx, bD] using this)
      · rintro H8 ⟨ρ', Hf', acc', zs', ⟨a1, a2, a3, ⟨us', a4, a5⟩, a6, a7⟩, el3, ea3⟩
        rw [List.drop_length] at el3
        have el3 : some (([] : List PV), ρ') = some (zs', ρ7) := el3
        cases el3
        rw [List.append_nil] at ea3
        subst ea3
        have off8 : ∀ j, j ∉ vs → (wipe σ vs)[j]? = (wipe σ4 vs1)[j]? := fun j hj => by
          rw [wipe_off (σ := σ4) (vs := vs1) j fun z => hj (hv1 j z)]; exact off' j hj
        exact ⟨clear vs ρ7, Hf', acc ++ ws, zs2, ⟨a1.clear off8, a2.trans (.clear off8), ⟨us', a4, a5⟩, a6, fun o => a7 (Own.clear off8 o)⟩, e8, by rw [List.append_assoc]; exact ea⟩
  · have e : i = xs.length := by omega
    subst e
    obtain ⟨ρ, Hf, acc, zs, L, el2, ea⟩ := p
    rw [List.drop_length] at el2
    have el2 : some (([] : List PV), ρ) = some (zs, ρ2) := el2
    cases el2
    rw [List.append_nil] at ea
    subst ea
    obtain ⟨us, hus, rus⟩ := L.at_
    refine .inl ⟨W.stops H2 hGp, k (.ref D) Hf H2 (R.restore r1 L.r L.s.sub) (s1.trans (Step.restore L.s)) ⟨D, _, rfl, L.no, hus, ⟨us, rfl, rus⟩, fun o => L.un o.restore⟩ fun _ p e => ?_⟩
    cases e
    exact Classical.byContradiction fun n => s1.there D n hD
end
section
variable {X : Cx} {elt tg iter tg1 iter1 : Expr} {ifs ifs1 : List Expr} {scope : Scope} {own : List (Str × Nat)} {vs1 ts ts1 : List Nat} {pos spos : Pos} {fi fi1 : M (List PV)} {h h1 : PV → M Unit} {ft ft1 : M Bool} {fe : M PV}
abbrev blkOf (X : Cx) (scope : Scope) (s : Shared) (H : Hp) (C : Addr) (cl : List (Str × Addr)) (fp : List Addr) : Cx := X.blk s H scope (compEnvC scope cl C X.env) fp
theorem we_lc (hc : X.calm = true) (hN : X.N.Nodup) (hi : WI X tg iter fi) (ok : BlkOk X.N X.env.scope scope own) (hts : ∀ j ∈ ts, j ∈ own.map (·.2))
    (hg : ∀ s H C cl fp, WG (blkOf X scope s H C cl fp) ts tg h) (ht : ∀ s H C cl fp, WTs (blkOf X scope s H C cl fp) ifs ft) (he : ∀ s H C cl fp, WF (blkOf X scope s H C cl fp) elt fe) (hs : ∀ x, foldedSetIterable iter X.env x = pure x := by intro _; rfl) :
    WE X (.ListComp elt [⟨tg, iter, ifs, 0⟩] scope pos) (lcM fi (own.map (·.2)) h ft fe) :=
  ⟨peWeak (pe_lc hc hN hi.pi ok (fun s H C cl fp => (hg s H C cl fp).pg) (fun s H C cl fp => (ht s H C cl fp).pt) (fun s H C cl fp => (he s H C cl fp).pe) hs) fun _ _ _ q => readLc hts q⟩
theorem we_lc2 (hc : X.calm = true) (hN : X.N.Nodup) (hi : WI X tg iter fi) (ok : BlkOk X.N X.env.scope scope own) (hv : ∀ i ∈ vs1, i ∈ own.map (·.2)) (hts : ∀ j ∈ ts, j ∈ own.map (·.2)) (hts1 : ∀ j ∈ ts1, j ∈ vs1)
    (hg : ∀ s H C cl fp, WG (blkOf X scope s H C cl fp) ts tg h) (ht : ∀ s H C cl fp, WTs (blkOf X scope s H C cl fp) ifs ft) (hi1 : ∀ s H C cl fp, WI (blkOf X scope s H C cl fp) tg1 iter1 fi1)
    (hg1 : ∀ s H C cl fp, WG (blkOf X scope s H C cl fp) ts1 tg1 h1) (ht1 : ∀ s H C cl fp, WTs (blkOf X scope s H C cl fp) ifs1 ft1) (he : ∀ s H C cl fp, WF (blkOf X scope s H C cl fp) elt fe)
    (hs : ∀ x, foldedSetIterable iter X.env x = pure x := by intro _; rfl) (hs1 : ∀ env x, foldedSetIterable iter1 env x = pure x := by intro _ _; rfl) :
    WE X (.ListComp elt [⟨tg, iter, ifs, 0⟩, ⟨tg1, iter1, ifs1, 0⟩] scope pos) (lc2M fi (own.map (·.2)) vs1 h ft fi1 h1 ft1 fe) :=
  ⟨peWeak (pe_lc2 hc hN hi.pi ok hv (fun s H C cl fp => (hg s H C cl fp).pg) (fun s H C cl fp => (ht s H C cl fp).pt) (fun s H C cl fp => (hi1 s H C cl fp).pi) (fun s H C cl fp => (hg1 s H C cl fp).pg) (fun s H C cl fp => (ht1 s H C cl fp).pt) (fun s H C cl fp => (he s H C cl fp).pe) hs hs1)
    fun _ _ _ q => readLc2 hts hts1 hv q⟩
end
end MC
set_option Elab.async false
set_option linter.all false
set_option maxRecDepth 100000
set_option maxHeartbeats 4000000
namespace MC
open PySem PySem.Spec L2
open PyProof.Rows (b2i)

/-! ### statements -/
section
variable {X : Cx} {ios ts : List Nat} {e a b : Expr} {fe : M OV} {fv fk : M PV} {pos : Pos} {st : Stmt} {rest body body2 : List Stmt} {f g : M Fl} {fi : M (List PV)} {h : PV → M Unit} {fc : M Bool}
/-- the wish behind a statement -/
def SQ (K : PySem.W.Frag) (ios : List Nat) (D : Ends) (ρ : Env) (Hf : Hp) (σ : Sl) (H : Hp) (x : Fl) (ρ' : Env) : Prop := ∀ Hf' σ' H', R K ρ' Hf' σ' H' → Step ρ Hf σ H ρ' Hf' σ' H' → σ'.length = σ.length → (∀ i ∈ ios, σ'[i]? = σ[i]?) →
  match x with
  | .nx => D.nx σ' H'
  | .bk => D.bk σ' H'
  | .ct => D.ct σ' H'
  | .rt y => ∀ v', RO K ρ' Hf' σ' H' v' y → NewR ρ σ H v' y → D.rt v' H'
theorem tS_eq {K : PySem.W.Frag} {D : Ends} {σ : Sl} {H : Hp} : tS K ios f D σ H ↔ ∃ ρ Hf, R K ρ Hf σ H ∧ wp f ρ (SQ K ios D ρ Hf σ H) := Iff.rfl
/-- behind a first step -/
theorem SQ.after {K : PySem.W.Frag} {D : Ends} {ρ ρ1 : Env} {Hf Hf1 : Hp} {σ σ1 : Sl} {H H1 : Hp} (s : Step ρ Hf σ H ρ1 Hf1 σ1 H1) (l : σ1.length = σ.length) (o : ∀ i ∈ ios, σ1[i]? = σ[i]?) {x : Fl} {ρ' : Env} (q : SQ K ios D ρ Hf σ H x ρ') : SQ K ios D ρ1 Hf1 σ1 H1 x ρ' :=
  fun Hf' σ' H' r' s' l' o' => by
    have := q Hf' σ' H' r' (s.trans s') (l'.trans l) fun i hi => (o' i hi).trans (o i hi)
    cases x with
    | rt y => exact fun v' ro nw => this v' ro (s.newR nw)
    | _ => exact this
theorem wss_nil : WSs ios X [] (pure .nx) := ⟨pssWeak pss_nil fun D σ H ⟨ρ, Hf, r, w⟩ => wp_pure.mp w Hf σ H r .rfl' rfl fun _ _ => rfl⟩
def seqM (f g : M Fl) : M Fl := f >>= fun r => match r with
  | .nx => g
  | r => pure r
theorem wss_cons (h1 : WS ios X st f) (h2 : WSs ios X rest g) : WSs ios X (st :: rest) (seqM f g) := ⟨pssWeak (pss_cons h1.ps h2.ps) fun D σ H ⟨ρ, Hf, r, w⟩ => by
  unfold seqM at w
  rw [wp_bind] at w
  refine ⟨ρ, Hf, r, wp_mono w fun x ρ1 w Hf1 σ1 H1 r1 s1 l1 o1 => ?_⟩
  cases x with
  | nx => exact ⟨ρ1, Hf1, r1, wp_mono w fun y ρ2 q => SQ.after s1 l1 o1 q⟩
  | bk => exact wp_pure.mp w Hf1 σ1 H1 r1 s1 l1 o1
  | ct => exact wp_pure.mp w Hf1 σ1 H1 r1 s1 l1 o1
  | rt y => exact wp_pure.mp w Hf1 σ1 H1 r1 s1 l1 o1⟩
theorem wss_one (h1 : WS ios X st f) : WSs ios X [st] f := ⟨pssWeak (pss_one h1.ps) fun _ _ _ h => h⟩
theorem ws_pass : WS ios X (.Pass pos) (pure .nx) := ⟨psWeak ps_pass fun D σ H ⟨ρ, Hf, r, w⟩ => wp_pure.mp w Hf σ H r .rfl' rfl fun _ _ => rfl⟩
theorem ws_break : WS ios X (.Break pos) (pure .bk) := ⟨psWeak ps_break fun D σ H ⟨ρ, Hf, r, w⟩ => wp_pure.mp w Hf σ H r .rfl' rfl fun _ _ => rfl⟩
theorem ws_cont : WS ios X (.Continue pos) (pure .ct) := ⟨psWeak ps_continue fun D σ H ⟨ρ, Hf, r, w⟩ => wp_pure.mp w Hf σ H r .rfl' rfl fun _ _ => rfl⟩
/-- code that is not come to -/
theorem ws_never : WS ios X st bad := ⟨psWeak ps_never fun D σ H ⟨ρ, Hf, r, w⟩ => w.elim⟩
def dropM (f : M OV) : M Fl := f >>= fun _ => pure .nx
theorem ws_expr (he : WE X e fe) (hs : swapsWith e none pos.line X.env = pure false := by rfl) : WS ios X (.Expr e pos) (dropM fe) := ⟨psWeak (ps_expr he.wf.pe hs) fun D σ H ⟨ρ, Hf, r, w⟩ => by
  unfold dropM at w
  rw [wp_bind] at w
  refine ⟨ρ, Hf, r, ?_⟩
  unfold asF
  rw [wp_bind]
  exact wp_mono w fun x ρ1 w => wp_pure.mpr fun v' Hf1 H1 r1 s1 _ => wp_pure.mp w Hf1 σ H1 r1 s1 rfl fun _ _ => rfl⟩
theorem ws_doc {x j pos'} : WS ios X (.Expr (.Constant (.str x) j pos) pos') (pure .nx) := ⟨psWeak ps_doc fun D σ H ⟨ρ, Hf, r, w⟩ => wp_pure.mp w Hf σ H r .rfl' rfl fun _ _ => rfl⟩
def retM (f : M OV) : M Fl := f >>= fun x => pure (.rt x)
theorem ws_ret (he : WE X e fe) : WS ios X (.Return (some e) pos) (retM fe) := ⟨psWeak (ps_ret he.pe) fun D σ H ⟨ρ, Hf, r, w⟩ => by
  unfold retM at w
  rw [wp_bind] at w
  exact ⟨ρ, Hf, r, wp_mono w fun x ρ1 w v' Hf1 H1 r1 s1 ro nw => wp_pure.mp w Hf1 σ H1 r1 s1 rfl (fun _ _ => rfl) v' ro nw.r⟩⟩
theorem ws_retN : WS ios X (.Return none pos) (pure (.rt (false, .non))) := ⟨psWeak ps_retN fun D σ H ⟨ρ, Hf, r, w⟩ => by
  exact wp_pure.mp w Hf σ H r .rfl' rfl (fun _ _ => rfl) .non (show Rep X.K Hf .non .non from rep_non) fun z => nomatch z⟩
/-- return of a name: its object goes out -/
def giveM (i : Nat) : M Fl := fun ρ => match ρ[i]? with
  | some (some (o, v)) => some (.rt (o, v), ρ.set i none)
  | _ => none
theorem ws_retv (i : Nat) (ha : PE X a (tVar i)) : WS ios X (.Return (some a) pos) (giveM i) := ⟨psWeak (ps_ret ha) fun D σ H ⟨ρ, Hf, r, w⟩ => by
  unfold wp giveM at w
  cases e : ρ[i]? with
  | none => rw [e] at w; exact w.elim
  | some z =>
    cases z with
    | none => rw [e] at w; exact w.elim
    | some z =>
      obtain ⟨o, v⟩ := z
      rw [e] at w
      obtain ⟨v', s, h1, h2⟩ := r.vars i o v e
      refine ⟨v', s, ?_⟩
      have gets : ∀ (j : Nat) x, (ρ.set i none)[j]? = some (some x) → ρ[j]? = some (some x) ∧ j ≠ i := fun j x hj => by
        rcases getSet hj with ⟨_, e2, _⟩ | ⟨ne, e2⟩
        · cases e2
        · exact ⟨e2, fun z => ne z.symm⟩
      have r2 : R X.K (ρ.set i none) Hf σ H := r.less fun j x hj => ⟨(gets j x hj).1, rfl⟩
      have s2 : Step ρ Hf σ H (ρ.set i none) Hf σ H := ⟨.rfl', fun _ _ e _ => e, fun _ e => .inl e, fun b ⟨j, y, a1, a2⟩ => .inl ⟨j, y, (gets j _ a1).1, a2⟩, fun _ e => e⟩
      refine w Hf σ H r2 s2 rfl (fun _ _ => rfl) v' ?_ ?_
      · cases o with
        | false => exact h1 rfl
        | true =>
          obtain ⟨p, ob, rfl, a1, a2, a3⟩ := h2 rfl
          refine ⟨p, ob, rfl, a1, a2, a3, fun ⟨j, y, b1, b2⟩ => ?_⟩
          obtain ⟨b3, ne⟩ := gets j _ b1
          exact ne (r.dist j i y v p b3 e b2 s)
      · intro z p ep
        subst ep
        cases o with
        | false => cases z
        | true => exact .inl ⟨i, v, e, s⟩⟩
/-- name = value -/
def setM (i : Nat) (f : M OV) : M Fl := f >>= fun x => put i x.1 x.2 >>= fun _ => pure .nx
theorem readSet {te : TE} {D : Ends} {i : Nat} (hi : i < X.N.length) (hio : i ∉ ios) {σ : Sl} {H : Hp} (hl : σ.length = X.N.length) (ht : ∀ {Q : VK}, tE X.K fe σ H Q → te σ H Q) (hq : tS X.K ios (setM i fe) D σ H) : tAsg te (gName i) D σ H := by
  obtain ⟨ρ, Hf, r, w⟩ := hq
  refine ht ⟨ρ, Hf, r, ?_⟩
  unfold setM at w
  rw [wp_bind] at w
  refine wp_mono w fun x ρ1 w v' Hf1 H1 r1 s1 ro nw => ?_
  have hlen : i < σ.length := by rw [hl]; exact hi
  have w : SQ X.K ios D ρ Hf σ H .nx (ρ1.set i (some (x.1, x.2))) := w
  have fin : ∀ ob, R X.K (ρ1.set i (some (x.1, x.2))) Hf1 (σ.set i (some v')) H1 → (∀ b, Own (ρ1.set i (some (x.1, x.2))) (σ.set i (some v')) b → Own ρ1 σ b ∨ H b = none) → ob → D.nx (σ.set i (some v')) H1 := fun _ r2 ow _ => by
    refine w Hf1 _ H1 r2 ⟨s1.sub, s1.keep, s1.new, fun b o => ?_, s1.there⟩ (by simp) fun j hj => ?_
    · rcases ow b o with z | z
      · exact s1.own b z
      · exact .inr z
    · rw [List.getElem?_set_ne]
      intro e; subst e; exact hio hj
  obtain ⟨o, v⟩ := x
  cases o with
  | false =>
    refine fin True (r1.setF hlen ro) (fun b ⟨j, y, h1, h2⟩ => ?_) trivial
    rcases getSet h1 with ⟨rfl, e2, _⟩ | ⟨ne, e2⟩
    · cases e2
    · rw [List.getElem?_set_ne ne] at h2; exact .inl ⟨j, y, e2, h2⟩
  | true =>
    obtain ⟨p, ob, rfl, a1, a2, a3, a4⟩ := ro
    refine fin True (r1.setO hlen a1 a2 a3 a4) (fun b ⟨j, y, h1, h2⟩ => ?_) trivial
    rcases getSet h1 with ⟨rfl, e2, _⟩ | ⟨ne, e2⟩
    · rw [List.getElem?_set_self hlen] at h2; cases h2
      exact .inr (nw rfl p rfl)
    · rw [List.getElem?_set_ne ne] at h2; exact .inl ⟨j, y, e2, h2⟩
theorem psWeakL {t t' : TS} (h : PS X st t) (k : ∀ D σ H, σ.length = X.N.length → t' D σ H → t D σ H) : PS X st t' := ⟨fun pins s σ H D I q => h.run pins s σ H D I (k D σ H I.len q)⟩
theorem ws_set (i : Nat) {x : Str} {pos' : Pos} (hio : i ∉ ios) (hN : X.N.Nodup) (he : WE X e fe) (hi : X.N[i]? = some x := by rfl) (hx : Loc X.env.scope x := by first | exact Or.inl rfl | exact Or.inr rfl) (hs : swapsWith e (some (.Name x pos')) pos.line X.env = pure false := by rfl)
    (hf : X.fn x = true ∨ X.env.scope.names.lookup x = some .local := by first | exact .inl rfl | exact .inr rfl | assumption) : WS ios X (.Assign [.Name x pos'] e pos) (setM i fe) :=
  ⟨psWeakL (ps_set hN hi hx he.pe hs hf) fun D σ H hl hq => readSet (List.getElem?_eq_some_iff.mp hi).1 hio hl (fun h => h) hq⟩
section
variable {elt tg iter tg1 iter1 : Expr} {ifs ifs1 : List Expr} {scope : Scope} {own : List (Str × Nat)} {vs1 ts1 : List Nat} {spos : Pos} {fi1 : M (List PV)} {h1 : PV → M Unit} {ft ft1 : M Bool} {fe1 : M PV}
theorem ws_setLc (i : Nat) {y : Str} {py : Pos} (hio : i ∉ ios) (hc : X.calm = true) (hN : X.N.Nodup) (hi : WI X tg iter fi) (ok : BlkOk X.N X.env.scope scope own) (hts : ∀ j ∈ ts, j ∈ own.map (·.2))
    (hg : ∀ s H C cl fp, WG (blkOf X scope s H C cl fp) ts tg h) (ht : ∀ s H C cl fp, WTs (blkOf X scope s H C cl fp) ifs ft) (he : ∀ s H C cl fp, WF (blkOf X scope s H C cl fp) elt fe1)
    (hy : X.N[i]? = some y := by rfl) (hyl : X.env.scope.names.lookup y = some .local := by rfl) (hsw : swapsWith (.ListComp elt [⟨tg, iter, ifs, 0⟩] scope pos) (some (.Name y py)) spos.line X.env = pure true := by exact sw_true rfl rfl rfl (by decide +kernel)) (hs : ∀ x, foldedSetIterable iter X.env x = pure x := by intro _; rfl) :
    WS ios X (.Assign [.Name y py] (.ListComp elt [⟨tg, iter, ifs, 0⟩] scope pos) spos) (setM i (lcM fi (own.map (·.2)) h ft fe1)) :=
  ⟨psWeakL (ps_setLc hc hN hy hyl hsw hi.pi ok (fun s H C cl fp => (hg s H C cl fp).pg) (fun s H C cl fp => (ht s H C cl fp).pt) (fun s H C cl fp => (he s H C cl fp).pe) hs) fun D σ H hl hq => readSet (List.getElem?_eq_some_iff.mp hy).1 hio hl (fun q => readLc hts q) hq⟩
theorem ws_setLc2 (i : Nat) {y : Str} {py : Pos} (hio : i ∉ ios) (hc : X.calm = true) (hN : X.N.Nodup) (hi : WI X tg iter fi) (ok : BlkOk X.N X.env.scope scope own) (hv : ∀ i ∈ vs1, i ∈ own.map (·.2)) (hts : ∀ j ∈ ts, j ∈ own.map (·.2)) (hts1 : ∀ j ∈ ts1, j ∈ vs1)
    (hg : ∀ s H C cl fp, WG (blkOf X scope s H C cl fp) ts tg h) (ht : ∀ s H C cl fp, WTs (blkOf X scope s H C cl fp) ifs ft) (hi1 : ∀ s H C cl fp, WI (blkOf X scope s H C cl fp) tg1 iter1 fi1)
    (hg1 : ∀ s H C cl fp, WG (blkOf X scope s H C cl fp) ts1 tg1 h1) (ht1 : ∀ s H C cl fp, WTs (blkOf X scope s H C cl fp) ifs1 ft1) (he : ∀ s H C cl fp, WF (blkOf X scope s H C cl fp) elt fe1)
    (hy : X.N[i]? = some y := by rfl) (hyl : X.env.scope.names.lookup y = some .local := by rfl) (hsw : swapsWith (.ListComp elt [⟨tg, iter, ifs, 0⟩, ⟨tg1, iter1, ifs1, 0⟩] scope pos) (some (.Name y py)) spos.line X.env = pure true := by exact sw_true rfl rfl rfl (by decide +kernel))
    (hs : ∀ x, foldedSetIterable iter X.env x = pure x := by intro _; rfl) (hs1 : ∀ env x, foldedSetIterable iter1 env x = pure x := by intro _ _; rfl) :
    WS ios X (.Assign [.Name y py] (.ListComp elt [⟨tg, iter, ifs, 0⟩, ⟨tg1, iter1, ifs1, 0⟩] scope pos) spos) (setM i (lc2M fi (own.map (·.2)) vs1 h ft fi1 h1 ft1 fe1)) :=
  ⟨psWeakL (ps_setLc2 hc hN hy hyl hsw hi.pi ok hv (fun s H C cl fp => (hg s H C cl fp).pg) (fun s H C cl fp => (ht s H C cl fp).pt) (fun s H C cl fp => (hi1 s H C cl fp).pi) (fun s H C cl fp => (hg1 s H C cl fp).pg) (fun s H C cl fp => (ht1 s H C cl fp).pt) (fun s H C cl fp => (he s H C cl fp).pe) hs hs1)
    fun D σ H hl hq => readSet (List.getElem?_eq_some_iff.mp hy).1 hio hl (fun q => readLc2 hts hts1 hv q) hq⟩
end
/-- a target = value -/
def asgM (f : M PV) (h : PV → M Unit) : M Fl := f >>= fun x => h x >>= fun _ => pure .nx
theorem ws_asg {tg : Expr} (hio : ∀ i ∈ ios, i ∉ ts) (he : WF X e fv) (hg : WG X ts tg h) (hs : swapsWithSole [tg] e pos.line X.env = pure false := by rfl) (hw : swappedStores [tg] e X.env = pure none := by rfl)
    (h1 : (assignEach [tg] X.env).map (·.2) = [assign tg X.env] := by rfl) : WS ios X (.Assign [tg] e pos) (asgM fv h) := ⟨psWeak (ps_asg he.pe hg.pg hs hw h1) fun D σ H ⟨ρ, Hf, r, w⟩ => by
  unfold asgM at w
  rw [wp_bind] at w
  refine ⟨ρ, Hf, r, wp_mono w fun x ρ1 w v' Hf1 H1 r1 s1 p1 => ?_⟩
  rw [wp_bind] at w
  exact ⟨ρ1, Hf1, x, r1, p1, wp_mono w fun _ ρ2 w σ2 r2 s2 l2 o2 => wp_pure.mp w Hf1 σ2 H1 r2 (s1.trans s2) l2 fun i hi => o2 i (hio i hi)⟩⟩
/-- a, b = x, y, stored from the right -/
def parM (i j : Nat) (fs : M (List PV)) : M Fl := fs >>= fun xs => match xs with
  | [x, y] => put i false x >>= fun _ => put j false y >>= fun _ => pure .nx
  | _ => bad
theorem ws_par (i j : Nat) {x y : Str} {px py pt : Pos} {kt k2 pt2} {fs : M (List PV)} (hio : i ∉ ios ∧ j ∉ ios) (hc : X.calm = true) (hN : X.N.Nodup) (ha : WL X [a, b] fs) (hi : X.N[i]? = some x := by rfl) (hj : X.N[j]? = some y := by rfl) (hij : i ≠ j := by decide)
    (hx : X.env.scope.names.lookup x = some .local := by rfl) (hy : X.env.scope.names.lookup y = some .local := by rfl)
    (hw : swappedStores [.Tuple [.Name x px, .Name y py] kt pt] (.Tuple [a, b] k2 pt2) X.env = pure (some [x, y]) := by rfl)
    (hs : swapsWithSole [.Tuple [.Name x px, .Name y py] kt pt] (.Tuple [a, b] k2 pt2) pos.line X.env = pure false := by rfl) :
    WS ios X (.Assign [.Tuple [.Name x px, .Name y py] kt pt] (.Tuple [a, b] k2 pt2) pos) (parM i j fs) := ⟨psWeakL (ps_par hc hN hi hj hij hx hy ha.pa hw hs) fun D σ H hl ⟨ρ, Hf, r, w⟩ => by
  unfold parM at w
  rw [wp_bind] at w
  refine ⟨ρ, Hf, r, wp_mono w fun xs ρ1 w vs Hf1 H1 r1 s1 p1 => ?_⟩
  split at w
  · rename_i u v
    obtain ⟨u', vr, rfl, q1, q2⟩ := p1.cons_inv
    obtain ⟨v', rfl, q3⟩ := reps1 q2
    have hi' : i < σ.length := by rw [hl]; exact (List.getElem?_eq_some_iff.mp hi).1
    have hj' : j < (σ.set i (some u')).length := by rw [List.length_set, hl]; exact (List.getElem?_eq_some_iff.mp hj).1
    have w : SQ X.K ios D ρ Hf σ H .nx ((ρ1.set i (some (false, u))).set j (some (false, v))) := w
    refine ⟨u', v', rfl, w Hf1 _ H1 ((r1.setF hi' q1).setF hj' q3) ((s1.trans .put).trans .put) (by simp) fun m hm => ?_⟩
    rw [List.getElem?_set_ne (by rintro rfl; exact hio.2 hm), List.getElem?_set_ne (by rintro rfl; exact hio.1 hm)]
  · exact w.elim⟩
/-- if -/
theorem ws_if {c : Expr} (hc : WT X c fc) (h1 : WSs ios X body f) (h2 : WSs ios X body2 g) : WS ios X (.If c body body2 pos) (ifM fc f g) := ⟨psWeak (ps_if hc.pt h1.ps h2.ps) fun D σ H ⟨ρ, Hf, r, w⟩ => by
  unfold ifM at w
  rw [wp_bind] at w
  refine ⟨ρ, Hf, r, wp_mono w fun b ρ1 w Hf1 H1 r1 s1 => ?_⟩
  cases b with
  | true =>
    rw [if_pos rfl] at w ⊢
    exact ⟨ρ1, Hf1, r1, wp_mono w fun y ρ2 q => SQ.after s1 rfl (fun _ _ => rfl) q⟩
  | false =>
    rw [if_neg Bool.false_ne_true] at w ⊢
    exact ⟨ρ1, Hf1, r1, wp_mono w fun y ρ2 q => SQ.after s1 rfl (fun _ _ => rfl) q⟩⟩
/-- for -/
def forM (h : PV → M Unit) (f : M Fl) : List PV → M Fl
  | [] => pure .nx
  | x :: xs => h x >>= fun _ => f >>= fun r => match r with
    | .nx => forM h f xs
    | .ct => forM h f xs
    | .bk => pure .nx
    | .rt y => pure (.rt y)
theorem ws_for {tg iter : Expr} (hp : PassesOwn (model X.prog X.w) X.A X.env X.xe) (hc : X.calm = true) (hio : ∀ i ∈ ios, i ∉ ts) (hi : WI X tg iter fi) (hg : WG X ts tg h) (hb : WSs ios X body f)
    (hs : ∀ x, foldedSetIterable iter X.env x = pure x := by intro _; rfl) : WS ios X (.For tg iter body [] pos) (fi >>= forM h f) := ⟨psWeak (ps_for hp hc hi.pi hg.pg hb.ps hs) fun D σ H ⟨ρ, Hf, r, w⟩ => by
  rw [wp_bind] at w
  refine ⟨ρ, Hf, r, wp_mono w fun xs ρ1 w J Hf1 H1 ⟨G, Y, W, hG, hY⟩ r1 s1 => ?_⟩
  refine for_it W (fun i σ2 H2 => ∃ ρ2 Hf2, R X.K ρ2 Hf2 σ2 H2 ∧ Step ρ Hf σ H ρ2 Hf2 σ2 H2 ∧ Bel Hf1 Hf2 ∧ σ2.length = σ.length ∧ (∀ i ∈ ios, σ2[i]? = σ[i]?) ∧ wp (forM h f (xs.drop i)) ρ2 (SQ X.K ios D ρ Hf σ H)) ?_ ?_ ?_ ?_
  · exact ⟨ρ1, Hf1, r1, s1, .rfl', rfl, fun _ _ => rfl, by rw [List.drop_zero]; exact w⟩
  · rintro i σ2 H2 _ ⟨ρ2, Hf2, r2, s2, b2, _⟩
    exact hG H2 (b2.trans r2.sub)
  · rintro i v σ2 H2 H3 hi ⟨ρ2, Hf2, r2, s2, b2, l2, o2, w2⟩ y
    have ex : xs[i]? = some xs[i] := by simp [hi]
    rw [List.drop_eq_getElem_cons hi] at w2
    have res := hY i xs[i] H2 H3 v Hf2 ex b2 r2.sub y
    obtain ⟨Hf3, r3, s3, ro, _⟩ := res.use r2
    unfold forM at w2
    rw [wp_bind] at w2
    refine ⟨ρ2, Hf3, xs[i], r3, ro, wp_mono w2 fun _ ρ4 w2 σ4 r4 s4 l4 o4 => ?_⟩
    rw [wp_bind] at w2
    refine ⟨ρ4, Hf3, r4, wp_mono w2 fun x ρ5 w2 Hf5 σ5 H5 r5 s5 l5 o5 => ?_⟩
    have s35 := ((s2.trans s3).trans s4).trans s5
    have l35 := l5.trans (l4.trans l2)
    have o35 : ∀ i ∈ ios, σ5[i]? = σ[i]? := fun j hj => ((o5 j hj).trans (o4 j (hio j hj))).trans (o2 j hj)
    cases x with
    | nx => exact ⟨ρ5, Hf5, r5, s35, (b2.trans s3.sub).trans s5.sub, l35, o35, w2⟩
    | ct => exact ⟨ρ5, Hf5, r5, s35, (b2.trans s3.sub).trans s5.sub, l35, o35, w2⟩
    | bk => exact wp_pure.mp w2 Hf5 σ5 H5 r5 s35 l35 o35
    | rt z => exact fun v' ro nw => wp_pure.mp w2 Hf5 σ5 H5 r5 s35 l35 o35 v' ro (((s2.trans s3).trans s4).newR nw)
  · rintro σ2 H2 ⟨ρ2, Hf2, r2, s2, b2, l2, o2, w2⟩
    rw [List.drop_length] at w2
    exact wp_pure.mp w2 Hf2 σ2 H2 r2 s2 l2 o2⟩
/-- while -/
def whileN (c : M Bool) (f : M Fl) : Nat → M Fl
  | 0 => bad
  | n + 1 => c >>= fun b => if b = true then f >>= fun r => match r with
      | .nx => whileN c f n
      | .ct => whileN c f n
      | .bk => pure .nx
      | .rt y => pure (.rt y)
    else pure .nx
open Classical in
noncomputable def whileM (c : M Bool) (f : M Fl) : M Fl := fun ρ => if h : ∃ n r, whileN c f n ρ = some r then h.choose_spec.choose else none
theorem whileN_mono {c : M Bool} {f : M Fl} : ∀ {n : Nat} {ρ : Env} {r : Fl × Env}, whileN c f n ρ = some r → ∀ k, whileN c f (n + k) ρ = some r
  | 0, _, _, h, _ => by cases h
  | n + 1, ρ, r, h, k => by
    rw [Nat.succ_add]
    unfold whileN at h ⊢
    rw [bind_eq] at h ⊢
    cases e : c ρ with
    | none => rw [e] at h; cases h
    | some z =>
      obtain ⟨b, ρ1⟩ := z
      rw [e] at h
      cases b with
      | false => exact h
      | true =>
        simp only [if_true] at h ⊢
        rw [bind_eq] at h ⊢
        cases e2 : f ρ1 with
        | none => rw [e2] at h; cases h
        | some z =>
          obtain ⟨x, ρ2⟩ := z
          rw [e2] at h
          cases x with
          | nx => exact whileN_mono h k
          | ct => exact whileN_mono h k
          | bk => exact h
          | rt y => exact h
theorem whileM_of {c : M Bool} {f : M Fl} {n : Nat} {ρ : Env} {r : Fl × Env} (h : whileN c f n ρ = some r) : whileM c f ρ = some r := by
  have hx : ∃ n r, whileN c f n ρ = some r := ⟨n, r, h⟩
  unfold whileM
  rw [dif_pos hx]
  have h2 := hx.choose_spec.choose_spec
  have h3 := whileN_mono h hx.choose
  have h4 := whileN_mono h2 n
  rw [Nat.add_comm] at h4
  rw [h3] at h4
  exact h4.symm
theorem whileM_inv {c : M Bool} {f : M Fl} {ρ : Env} {r : Fl × Env} (h : whileM c f ρ = some r) : ∃ n, whileN c f n ρ = some r := by
  unfold whileM at h
  split at h
  · rename_i hx
    have h2 := hx.choose_spec.choose_spec
    have e : hx.choose_spec.choose = r := by
      have := h
      exact Option.some.inj (by simpa using this)
    exact ⟨hx.choose, by rw [← e]; exact h2⟩
  · cases h
theorem ws_while {c : Expr} (hp : PassesOwn (model X.prog X.w) X.A X.env X.xe) (hc : WT X c fc) (hb : WSs ios X body f) : WS ios X (.While c body [] pos) (whileM fc f) := ⟨psWeak (ps_while hp hc.pt hb.ps) fun D σ H ⟨ρ, Hf, r, w⟩ => by
  obtain ⟨x, ρe, e, w⟩ := wp_iff.mp w
  obtain ⟨n, e⟩ := whileM_inv e
  refine ⟨fun m σ2 H2 => ∃ ρ2 Hf2, R X.K ρ2 Hf2 σ2 H2 ∧ Step ρ Hf σ H ρ2 Hf2 σ2 H2 ∧ σ2.length = σ.length ∧ (∀ i ∈ ios, σ2[i]? = σ[i]?) ∧ wp (whileN fc f m) ρ2 (SQ X.K ios D ρ Hf σ H), ⟨n, ρ, Hf, r, .rfl', rfl, fun _ _ => rfl, wp_some e w⟩, ?_⟩
  rintro m σ2 H2 ⟨ρ2, Hf2, r2, s2, l2, o2, w2⟩
  cases m with
  | zero => exact w2.elim
  | succ m =>
    unfold whileN at w2
    rw [wp_bind] at w2
    refine ⟨ρ2, Hf2, r2, wp_mono w2 fun b ρ3 w2 Hf3 H3 r3 s3 => ?_⟩
    have s23 := s2.trans s3
    dsimp only
    cases b with
    | false =>
      rw [if_neg Bool.false_ne_true] at w2 ⊢
      exact wp_pure.mp w2 Hf3 σ2 H3 r3 s23 l2 o2
    | true =>
      rw [if_pos rfl] at w2 ⊢
      rw [wp_bind] at w2
      refine ⟨fun σ4 H4 => ∃ ρ4 Hf4, R X.K ρ4 Hf4 σ4 H4 ∧ Step ρ Hf σ H ρ4 Hf4 σ4 H4 ∧ σ4.length = σ.length ∧ (∀ i ∈ ios, σ4[i]? = σ[i]?) ∧ wp (whileN fc f m) ρ4 (SQ X.K ios D ρ Hf σ H), fun σ4 H4 q => ⟨m, Nat.lt_succ_self m, q⟩, ρ3, Hf3, r3, wp_mono w2 fun y ρ5 w2 Hf5 σ5 H5 r5 s5 l5 o5 => ?_⟩
      have s25 := s23.trans s5
      have o25 : ∀ i ∈ ios, σ5[i]? = σ[i]? := fun i hi => (o5 i hi).trans (o2 i hi)
      cases y with
      | nx => exact ⟨ρ5, Hf5, r5, s25, l5.trans l2, o25, w2⟩
      | ct => exact ⟨ρ5, Hf5, r5, s25, l5.trans l2, o25, w2⟩
      | bk => exact wp_pure.mp w2 Hf5 σ5 H5 r5 s25 (l5.trans l2) o25
      | rt z => exact fun v' ro nw => wp_pure.mp w2 Hf5 σ5 H5 r5 s25 (l5.trans l2) o25 v' ro (s23.newR nw)⟩
/-- name op= e -/
def IpP (X : Cx) (op : Operator) (g : PV → PV → Option OV) : Prop := PIp X op fun x' y' H Q => ∃ Hf x y r, Bel Hf H ∧ Opd X.K Hf H x' x ∧ Opd X.K Hf H y' y ∧ g x y = some r ∧ ∀ v' H', Res1 X.K Hf H v' H' r → Q v' H'
def augM (i : Nat) (fb : M PV) (g : PV → PV → Option OV) : M Fl := setM i (bin2v i fb g)
theorem ws_aug (i : Nat) {x : Str} {op : Operator} {g : PV → PV → Option OV} {pos' : Pos} (hio : i ∉ ios) (hN : X.N.Nodup) (ho : IpP X op g) (he : WO X e fv) (hi : X.N[i]? = some x := by rfl) (hx : Loc X.env.scope x := by first | exact Or.inl rfl | exact Or.inr rfl)
    (hf : X.fn x = true ∨ X.env.scope.names.lookup x = some .local := by first | exact .inl rfl | exact .inr rfl | assumption) : WS ios X (.AugAssign (.Name x pos') op e pos) (augM i fv g) :=
  ⟨psWeakL (ps_aug hN hi hx he.pe ho hf) fun D σ H hl hq => by
    have slot : ∃ v', σ[i]? = some (some v') := by
      obtain ⟨ρ, Hf, r, w⟩ := hq
      unfold augM setM bin2v at w
      rw [wp_bind, wp_bind] at w
      obtain ⟨o, v, e, _⟩ := look_inv w
      obtain ⟨v', s, _⟩ := r.opd e
      exact ⟨v', s⟩
    obtain ⟨v', s⟩ := slot
    have := readSet (te := fun σ H Q => ∃ v, σ[i]? = some (some v) ∧ tO X.K fv σ H fun y H1 => ∃ Hf x y2 r, Bel Hf H1 ∧ Opd X.K Hf H1 v x ∧ Opd X.K Hf H1 y y2 ∧ g x y2 = some r ∧ ∀ v' H', Res1 X.K Hf H1 v' H' r → Q v' H') (List.getElem?_eq_some_iff.mp hi).1 hio hl (fun q => read2v q) hq
    exact this⟩
theorem ip_of {op : Operator} {g : PV → PV → Option OV} (h : OpP X (inplaceOp op) g) : IpP X op g := fun pins s σ H x' y' v u Q I rx ry q => h pins s σ H x' y' v u Q I rx ry q
/-- for +=: no lists -/
def iaddP : PV → PV → Option OV
  | .int i, .int j => fl (.int (i + j))
  | .str a, .str b => when (fits (a.length + b.length)) (fl (.str (a ++ b)))
  | _, _ => none
theorem p_iadd : IpP X .Add iaddP := ip_of (fun pins s σ H x' y' v u Q I rx ry ⟨Hf, x, y, r, sb, ox, oy, e, q⟩ => by
  unfold iaddP at e
  split at e
  · cases e; exact iop_add pins s σ H x' y' v u Q I rx ry ⟨_, _, opd_int ox, opd_int oy, q _ _ (.same rep_int)⟩
  · obtain ⟨c, e⟩ := when_some e
    cases e
    exact iop_add_str pins s σ H x' y' v u Q I rx ry ⟨_, _, opd_str ox, opd_str oy, of_decide_eq_true c, q _ _ (.same rep_str)⟩
  · cases e)
theorem p_isub : IpP X .Sub subP := ip_of (intOp0 (k' := fun i j => .int (i - j)) iop_sub (fun x y r e => by unfold subP at e; split at e <;> first | (cases e; exact ⟨_, _, rfl, rfl, rfl⟩) | cases e) fun _ _ _ _ => rep_int)
end
/-! ### o[i] = v, o[i] op= v, an own object o -/
def dputK (ks : List PV) (k : PV) : List PV := match dFind ks k with
  | some _ => ks
  | none => ks ++ [k]
def dputV (ks vs : List PV) (k v : PV) : List PV := match dFind ks k with
  | some _ => (ks.zip vs).map fun p => if keyEq p.1 k then v else p.2
  | none => vs ++ [v]
/-- x[k] = v -/
def setV (x k v : PV) : Option PV := match x, k with
  | .lst xs, .int i => (ixN xs.length i).map fun j => .lst (xs.set j v)
  | .dic ks vs, k => if kindOk ks k && decide (ks.length < sizeLine) then some (.dic (dputK ks k) (dputV ks vs k v)) else none
  | _, _ => none
def rSetV (K : PySem.W.Frag) : V → V → V → Hp → (Hp → Prop) → Prop := fun o' k' v' H Q => ∃ Hf p ob x k v y, o' = .ref p ∧ H p = some ob ∧ Hf p = none ∧ Bel Hf H ∧ Cell K Hf ob x ∧ Opd K Hf H k' k ∧ Rep K Hf v' v ∧ setV x k v = some y ∧ ∀ ob', Cell K Hf ob' y → Q (upd H p ob')
section
variable {X : Cx}
theorem any_find {κ : Type} [DecidableEq κ] (k : κ) (kk : List κ) (ws : List V) (hl : kk.length = ws.length) : ((kk.zip ws).any fun kv => decide (kv.1 = k)) = (kk.findIdx? fun x => decide (x = k)).isSome := by
  rw [valV_any, valV_find k kk ws hl]
  cases e : kk.findIdx? fun x => decide (x = k) with
  | none => rfl
  | some i =>
    obtain ⟨h, _⟩ := List.findIdx?_eq_some_iff_getElem.mp e
    have : i < ws.length := by omega
    simp [this]
/-- what a store makes of the pairs -/
theorem put_zip {κ : Type} [DecidableEq κ] {K : PySem.W.Frag} {Hf : Hp} (f : κ → PV) (hf : ∀ a b, keyEq (f a) (f b) = decide (a = b)) (k : κ) {v' : V} {v : PV} (hv : Rep K Hf v' v) :
    ∀ (kk : List κ) (ws : List V) (vs : List PV), kk.length = ws.length → Reps K Hf ws vs → ∃ (kk' : List κ) (ws' : List V), putK (kk.zip ws) k v' = kk'.zip ws' ∧ kk'.length = ws'.length ∧ dputK (kk.map f) (f k) = kk'.map f ∧ Reps K Hf ws' (dputV (kk.map f) vs (f k) v) := by
  intro kk ws vs hl rv
  have ef : dFind (kk.map f) (f k) = kk.findIdx? fun x => decide (x = k) := findIdx_map f _ _ (fun x => hf x k) kk
  unfold putK dputK dputV
  rw [any_find k kk ws hl, ef]
  cases e : kk.findIdx? fun x => decide (x = k) with
  | none =>
    refine ⟨kk ++ [k], ws ++ [v'], ?_, by simp [hl], by simp, rv.append (.cons hv .nil)⟩
    simp [List.zip_append hl]
  | some i =>
    simp only [Option.isSome_some, if_true]
    refine ⟨kk, (kk.zip ws).map fun p => if p.1 = k then v' else p.2, ?_, by simp [hl], rfl, ?_⟩
    · clear e ef rv
      induction kk generalizing ws with
      | nil => rfl
      | cons a kk ih =>
        cases ws with
        | nil => cases hl
        | cons w ws =>
          rw [List.zip_cons_cons, List.map_cons, List.map_cons, List.zip_cons_cons, ih ws (by simpa using hl)]
          by_cases ea : a = k <;> simp [ea]
    · clear e ef
      induction kk generalizing ws vs with
      | nil => exact .nil
      | cons a kk ih =>
        cases ws with
        | nil => cases hl
        | cons w ws =>
          cases vs with
          | nil => have := rv.length; cases this
          | cons x vs =>
            obtain ⟨w0, r, ew, h1, h2⟩ := rv.cons_inv
            cases ew
            rw [List.zip_cons_cons, List.map_cons, List.map_cons, List.zip_cons_cons, List.map_cons]
            refine .cons ?_ (ih ws vs (by simpa using hl) h2)
            simp only [hf]
            by_cases ea : a = k
            · simp only [ea, decide_true, if_true]; exact hv
            · simp only [ea, decide_false, Bool.false_eq_true, if_false]; exact h1
theorem L2inv_retype {pins : List (Addr × Obj)} {s : Shared} {σ : Sl} {H : Hp} {a : Addr} (I : L2.Inv X pins σ H s) (h : H a = some (.dK [])) : L2.Inv X pins σ (upd H a (.dT [])) s := by
  obtain ⟨z, hd, vs, rel, ⟨o, es, ep, h1, h2, h3, h4, h5, h6⟩⟩ := dk_of I.hok h
  cases rel
  have e : es.toList = [] := by
    generalize es.toList = l at h5
    cases h5; rfl
  have J := d_write (t' := s.toks) (h' := s.heap) (ob := .dT []) I (by rw [h]; trivial) ⟨rfl, fun _ _ => rfl⟩ ⟨o, h1⟩ ⟨Nat.zero_le _, hd, [], .nil, o, es, ep, h1, h2, h3, e, List.nodup_nil⟩
  exact J
theorem set_all (hu : X.A.units + 1 < cLine) : PSet X (rSetV X.K) := by
  intro pins s σ H o' k' v' ov iv u Q I ro rk rv ⟨Hf, p, ob, x, k, v, y, eo, hp, hfp, sb, cx, ok, rep, e, q⟩
  subst eo
  cases x with
  | lst xs =>
   cases k with
   | int i =>
    have e : ((ixN xs.length i).map fun j => PV.lst (xs.set j v)) = some y := e
    obtain ⟨j, e1, rfl⟩ := Option.map_eq_some_iff.mp e
    obtain ⟨ws, rfl, rw'⟩ := cx
    rw [← rw'.length] at e1
    exact set_list pins s σ H _ k' v' ov iv u Q I ro rk rv ⟨p, ws, i, j, rfl, opd_int ok, hp, e1, q _ ⟨ws.set j v', rfl, rw'.set j rep⟩⟩
   | _ => cases e
  | dic ks vs =>
    have e : (if (kindOk ks k && decide (ks.length < sizeLine)) = true then some (PV.dic (dputK ks k) (dputV ks vs k v)) else none) = some y := e
    split at e
    · rename_i c
      obtain ⟨c1, c2⟩ := Bool.and_eq_true_iff.mp c
      have c2 := of_decide_eq_true c2
      cases e
      obtain ⟨ws, rw', h⟩ := cx
      cases (show ov = Value.ref p from ro)
      rcases h with ⟨kk, rfl, hl, rfl⟩ | ⟨kk, n, rfl, hl, rfl⟩
      · cases ek : keyOf k with
        | none => cases kk <;> simp [kindOk, ek, keyOf_kP] at c1
        | some qq =>
          cases qq with
          | inl key =>
            have e := kP_of ek
            subst e
            have ek := ok.key1
            subst ek
            obtain ⟨kk', ws', e1, e2, e3, e4⟩ := put_zip kP keyEq_kP key rep kk ws vs hl rw'
            have hz : (kk.zip ws).length < sizeLine := by rw [List.length_zip, hl, Nat.min_self]; rw [List.length_map] at c2; omega
            refine d_setItem hu I (DPut.k (k := key) (v := v') hp hz) rk rv fun s' I' => ⟨_, I', ?_⟩
            rw [e1]
            exact q _ ⟨ws', e4, .inl ⟨kk', rfl, e2, e3⟩⟩
          | inr l =>
            cases kk with
            | cons x _ => simp [kindOk, ek, keyOf_kP] at c1
            | nil =>
              have e := tup_of ek
              subst e
              cases ws with
              | cons _ _ => cases hl
              | nil =>
              cases vs with
              | cons _ _ => have := rw'.length; cases this
              | nil =>
              obtain ⟨b, us, rfl, hb, hb', rb⟩ := opd_tup sb ok
              have := rb.keys
              subst this
              have I2 := L2inv_retype I hp
              have bp : b ≠ p := fun z => by rw [z, hp] at hb; cases hb
              refine d_setItem hu I2 (DPut.t (kvs := []) (k := l) (v := v') upd_same (by rw [upd_ne bp]; exact hb) (by rw [sizeLine_eq]; decide)) rk rv fun s' I' => ⟨_, I', ?_⟩
              rw [upd_upd]
              refine q _ ⟨[v'], .cons rep .nil, .inr ⟨[l], by simp, rfl, rfl, rfl⟩⟩
      · cases kk with
        | nil => exact absurd rfl n
        | cons y0 kk =>
          cases ek : keyOf k with
          | none => simp [kindOk, ek, keyOf_tup] at c1
          | some qq =>
            cases qq with
            | inl key => simp [kindOk, ek, keyOf_tup] at c1
            | inr l =>
              have e := tup_of ek
              subst e
              obtain ⟨b, us, rfl, hb, hb', rb⟩ := opd_tup sb ok
              have := rb.keys
              subst this
              obtain ⟨kk', ws', e1, e2, e3, e4⟩ := put_zip (fun l : List Key => PV.tup (l.map kP)) keyEq_tup l rep (y0 :: kk) ws vs hl rw'
              have hz : ((y0 :: kk).zip ws).length < sizeLine := by rw [List.length_zip, hl, Nat.min_self]; rw [List.length_map] at c2; omega
              refine d_setItem hu I (DPut.t (k := l) (v := v') hp hb hz) rk rv fun s' I' => ⟨_, I', ?_⟩
              rw [e1]
              refine q _ ⟨ws', e4, .inr ⟨kk', ?_, rfl, e2, e3⟩⟩
              intro z
              subst z
              have := congrArg List.length e3
              unfold dputK at this
              split at this <;> simp at this
    · cases e
  | _ => exact cx.elim
end
end MC
set_option Elab.async false
set_option linter.all false
set_option maxRecDepth 100000
set_option maxHeartbeats 4000000
namespace MC
open PySem PySem.Spec L2
open PyProof.Rows (b2i)

/-! ### stores into an own object -/
def ownsAny (i : Nat) : M Unit := fun ρ => match ρ[i]? with
  | some (some (true, _)) => some ((), ρ)
  | _ => none
theorem ownsAny_inv {i : Nat} {ρ : Env} {P : Unit → Env → Prop} (h : wp (ownsAny i) ρ P) : ∃ x, ρ[i]? = some (some (true, x)) ∧ P () ρ := by
  unfold wp ownsAny at h
  cases e : ρ[i]? with
  | none => rw [e] at h; exact h.elim
  | some z =>
    cases z with
    | none => rw [e] at h; exact h.elim
    | some z =>
      obtain ⟨o, x⟩ := z
      cases o with
      | false => rw [e] at h; exact h.elim
      | true => rw [e] at h; exact ⟨x, rfl, h⟩
def store (i : Nat) (k v : PV) : M Unit := change i fun x => (setV x k v).map fun y => ((), y)
def setIxM (i : Nat) (fv fk : M PV) : M Fl := fv >>= fun v => ownsAny i >>= fun _ => fk >>= fun k => store i k v >>= fun _ => pure .nx
def getV : PV → PV → Option PV
  | .lst xs, .int i => atI xs i
  | .dic ks vs, k => if kindOk ks k then dGet ks vs k else none
  | _, _ => none
def augIxM (i : Nat) (fk fe : M PV) (g : PV → PV → Option OV) : M Fl := ownsAny i >>= fun _ => fk >>= fun k => look i >>= fun x => lift (getV x k) >>= fun old => fe >>= fun v => lift ((g old v).bind fun z => if z.1 = false ∧ z.2.flat = true then some z.2 else none) >>= fun new => store i k new >>= fun _ => pure .nx
section
variable {X : Cx} {ios : List Nat} {o k e : Expr} {fv fk fe : M PV} {pos tpos : Pos} {i : Nat}
theorem store_q {K : PySem.W.Frag} {D : Ends} {ρ ρ2 : Env} {Hf Hf2 : Hp} {σ : Sl} {H H2 : Hp} {kv vv : PV} {o' k' v' : V} (s2 : Step ρ Hf σ H ρ2 Hf2 σ H2) (r2 : R K ρ2 Hf2 σ H2) (so : σ[i]? = some (some o')) (hk : Opd K Hf2 H2 k' kv) (hv : Rep K Hf2 v' vv)
    (w : wp (store i kv vv >>= fun _ => (pure .nx : M Fl)) ρ2 (SQ K ios D ρ Hf σ H)) : rSetV K o' k' v' H2 fun H3 => D.nx σ H3 := by
  unfold store at w
  rw [wp_bind] at w
  obtain ⟨x, a, y, e1, e2, w⟩ := change_inv w
  obtain ⟨y', e3, e4⟩ := Option.map_eq_some_iff.mp e2
  cases e4
  obtain ⟨p, ob, s', hn, hp, c⟩ := r2.own e1
  rw [so] at s'; cases s'
  refine ⟨Hf2, p, ob, x, kv, vv, y, rfl, hp, hn, r2.sub, c, hk, hv, e3, fun ob' c' => ?_⟩
  exact wp_pure.mp w Hf2 σ _ (r2.write e1 so c') (s2.trans (.write r2 e1 so)) rfl fun _ _ => rfl
theorem ws_setIx (hu : X.A.units + 1 < cLine) (ho : PE X o (tVar i)) (hk : WO X k fk) (he : WF X e fv) (hs : swapsWithSole [.Subscript o k tpos] e pos.line X.env = pure false := by rfl) (hw : swappedStores [.Subscript o k tpos] e X.env = pure none := by rfl)
    (h1 : (assignEach [.Subscript o k tpos] X.env).map (·.2) = [assign (.Subscript o k tpos) X.env] := by rfl)
    (ha : ∀ v, assign (.Subscript o k tpos) X.env v = (do
      let ov ← holding [v] (eval o X.env)
      let iv ← holding [v, ov] (eval k X.env)
      standAt tpos
      holding [v, ov, iv] (setItem ov iv v)
      release [v, ov, iv] []) := by intro _; rfl) : WS ios X (.Assign [.Subscript o k tpos] e pos) (setIxM i fv fk) := ⟨psWeak (ps_asg he.pe (pg_sub ho hk.pe (set_all hu) ha) hs hw h1) fun D σ H ⟨ρ, Hf, r, w⟩ => by
  unfold setIxM at w
  rw [wp_bind] at w
  refine ⟨ρ, Hf, r, wp_mono w fun v ρ1 w v' Hf1 H1 r1 s1 p1 => ?_⟩
  rw [wp_bind] at w
  obtain ⟨x0, e0, w⟩ := ownsAny_inv w
  obtain ⟨p, ob, so, _, _, _⟩ := r1.own e0
  refine ⟨.ref p, so, ?_⟩
  rw [wp_bind] at w
  refine ⟨ρ1, Hf1, r1, wp_mono w fun kv ρ2 w k' Hf2 H2 r2 s2 p2 => ?_⟩
  exact store_q (s1.trans s2) r2 so p2 (p1.sub s2.sub) w⟩
theorem get_all (hu : X.A.units + 1 < cLine) : PGet X fun o' k' H Q => ∃ Hf x k y, Bel Hf H ∧ Opd X.K Hf H o' x ∧ Opd X.K Hf H k' k ∧ getV x k = some y ∧ ∀ v', Rep X.K Hf v' y → Q v' H := by
  intro pins s σ H o' k' ov iv Q I ro rk ⟨Hf, x, k, y, sb, ox, ok, e, q⟩
  cases x with
  | lst xs =>
    cases k with
    | int j =>
      have e : atI xs j = some y := e
      obtain ⟨a, vs, rfl, ha, ra⟩ := opd_lst ox
      rw [opd_int ok] at rk
      obtain ⟨t, rfl⟩ := rk
      cases (show ov = Value.ref a from ro)
      obtain ⟨z, ez, hz⟩ := reps_at ra e
      obtain ⟨its, r, pl, hl⟩ := I.list (SqL.of ha)
      obtain ⟨m, h1, h2, h3, h4, h5⟩ := atI_get ez
      obtain ⟨w, ew, rw'⟩ := r.get h2
      have hlen := r.length
      have hn := line63
      have fin : EP X pins σ Q w s := ⟨z, H, I, rw', q z hz⟩
      by_cases h0 : 0 ≤ j
      · have hj : j.toNat = m := by
          rw [seqIndex_of h0 h5] at h1
          exact Option.some.inj h1
        exact wpAny_getItem_list pl.isList h0 (by omega) (by rw [hj]; simpa using ew) fin
      · have hj : (j + (its.toArray.size : Int)).toNat = m := by
          rw [seqIndex_neg (by omega) h4] at h1
          rw [List.size_toArray, ← hlen]
          exact Option.some.inj h1
        exact wpAny_getItem_list_neg pl.isList (by omega) (by rw [List.size_toArray] <;> omega) (by omega) (by rw [hj]; simpa using ew) fin
    | _ => cases e
  | dic ks vs =>
    have e : (if kindOk ks k = true then dGet ks vs k else none) = some y := e
    split at e
    · rename_i hk
      obtain ⟨a, rfl, h⟩ := dget_of sb ox ok hk
      cases (show ov = Value.ref a from ro)
      rcases h with ⟨o, hg, k1, k2⟩ | ⟨_, hz⟩
      · cases o with
        | none => rw [k2 rfl] at e; cases e
        | some w =>
          obtain ⟨z2, e2, hw⟩ := k1 w rfl
          rw [e] at e2; cases e2
          exact d_getItem hu I hg rk fun w' s' I' rw' => ⟨w, H, I', rw', q w hw⟩
      · rw [hz] at e; cases e
    · cases e
  | _ => cases k <;> cases e
theorem ws_augIx {op : Operator} {g : PV → PV → Option OV} (hu : X.A.units + 1 < cLine) (hop : IpP X op g) (ho : PE X o (tVar i)) (hk : WF X k fk) (he : WF X e fe)
    (ha : ∀ ov iv new, augStore k ov iv new = (do holding [new, ov, iv] (setItem ov iv new); release [new, ov, iv] []; pure .next) := by intros; rfl) : WS ios X (.AugAssign (.Subscript o k tpos) op e pos) (augIxM i fk fe g) :=
  ⟨psWeak (ps_augS ho hk.pe (get_all hu) he.pe hop (set_all hu) ha) fun D σ H ⟨ρ, Hf, r, w⟩ => by
  unfold augIxM at w
  rw [wp_bind] at w
  obtain ⟨x0, e0, w⟩ := ownsAny_inv w
  obtain ⟨p, ob, so, _, _, _⟩ := r.own e0
  refine ⟨.ref p, so, ?_⟩
  rw [wp_bind] at w
  refine ⟨ρ, Hf, r, wp_mono w fun kv ρ2 w k' Hf2 H2 r2 s2 p2 => ?_⟩
  rw [wp_bind] at w
  obtain ⟨o1, x1, e1, w⟩ := look_inv w
  obtain ⟨v1, so1, ox⟩ := r2.opd e1
  rw [so] at so1; cases so1
  rw [wp_bind, wp_lift] at w
  obtain ⟨old, eo, w⟩ := w
  refine ⟨Hf2, x1, kv, old, r2.sub, ox, Rep.opd r2.sub p2, eo, fun v' hv' => ?_⟩
  rw [wp_bind] at w
  refine ⟨ρ2, Hf2, r2, wp_mono w fun z ρ3 w z' Hf3 H3 r3 s3 p3 => ?_⟩
  rw [wp_bind, wp_lift] at w
  obtain ⟨new, en, w⟩ := w
  obtain ⟨zz, eg, ez⟩ := Option.bind_eq_some_iff.mp en
  refine ⟨Hf3, old, z, zz, r3.sub, Rep.opd r3.sub (hv'.sub s3.sub), Rep.opd r3.sub p3, eg, fun w' H4 res => ?_⟩
  split at ez
  · rename_i c
    cases ez
    obtain ⟨Hf4, r4, s4, ro, _⟩ := res.use r3
    obtain ⟨oo, vv⟩ := zz
    obtain ⟨c1, c2⟩ := c
    cases c1
    exact store_q ((s2.trans s3).trans s4) r4 so (Rep.opd r4.sub (p2.sub (s3.sub.trans s4.sub))) ro w
  · cases ez⟩
end

/-! ### defs -/
/-- the arguments as the first slots -/
def argE (ios : List Nat) : Nat → List PV → Env
  | _, [] => []
  | k, x :: r => some (decide (k ∈ ios), x) :: argE ios (k + 1) r
theorem argE_get {ios : List Nat} : ∀ {k : Nat} {xs : List PV} {i : Nat}, (argE ios k xs)[i]? = xs[i]?.map fun x => some (decide (k + i ∈ ios), x)
  | _, [], _ => by simp [argE]
  | k, x :: r, 0 => by simp [argE]
  | k, x :: r, i + 1 => by
    unfold argE
    rw [List.getElem?_cons_succ, argE_get, List.getElem?_cons_succ]
    have : k + 1 + i = k + (i + 1) := by omega
    rw [this]
def outs (ρ : Env) : List Nat → Option (List PV)
  | [] => some []
  | i :: is => match ρ[i]? with
    | some (some (true, x)) => (outs ρ is).map (x :: ·)
    | _ => none
/-- behind a call -/
structure Done (K : PySem.W.Frag) (ios : List Nat) (vs : List V) (zs : List PV) (Hf H Hf' H' : Hp) : Prop where
  sub : Bel Hf Hf'
  sub' : Bel Hf' H'
  keep : ∀ b o, H b = some o → (∀ i ∈ ios, vs[i]? ≠ some (.ref b)) → H' b = some o
  new : ∀ b, Hf' b ≠ none → Hf b ≠ none ∨ H b = none
  there : ∀ b, H b ≠ none → H' b ≠ none
  io : ∀ (j i : Nat) (z : PV), ios[j]? = some i → zs[j]? = some z → ∃ p ob, vs[i]? = some (.ref p) ∧ H' p = some ob ∧ Cell K Hf' ob z
/-- the value's place behind a call -/
def RV (K : PySem.W.Frag) (Hf H : Hp) (v' : V) : OV → Prop
  | (false, v) => Rep K Hf v' v
  | (true, v) => ∃ p ob, v' = .ref p ∧ Hf p = none ∧ H p = some ob ∧ Cell K Hf ob v
abbrev Fn := List PV → Option (OV × List PV)
def spOf (K : PySem.W.Frag) (n : Nat) (ios : List Nat) (F : Fn) : Sp := fun vs H Q _ => vs.length = n ∧ ∃ Hf xs, xs.length = n ∧ R K (argE ios 0 xs) Hf (vs.map some) H ∧ ∃ y zs, F xs = some (y, zs) ∧
  ∀ v' Hf' H', Done K ios vs zs Hf H Hf' H' → RV K Hf' H' v' y → NewO H v' y → Q v' H'
/-- what a body makes of its arguments; N slots -/
def runF (N : Nat) (ios : List Nat) (f : M Fl) : Fn := fun xs => match f (argE ios 0 xs ++ List.replicate (N - xs.length) none) with
  | some (.rt y, ρ) => (outs ρ ios).map fun zs => (y, zs)
  | some (.nx, ρ) => (outs ρ ios).map fun zs => ((false, .non), zs)
  | _ => none
theorem outs_get {ρ : Env} : ∀ {ios : List Nat} {zs : List PV}, outs ρ ios = some zs → zs.length = ios.length ∧ ∀ (j i : Nat) (z : PV), ios[j]? = some i → zs[j]? = some z → ρ[i]? = some (some (true, z))
  | [], zs, h => by cases h; exact ⟨rfl, fun j i z e => by simp at e⟩
  | i :: is, zs, h => by
    unfold outs at h
    split at h
    · rename_i x e
      obtain ⟨r, e2, rfl⟩ := Option.map_eq_some_iff.mp h
      obtain ⟨h1, h2⟩ := outs_get e2
      refine ⟨by simp [h1], fun j i' z a b => ?_⟩
      cases j with
      | zero => simp at a b; subst a; subst b; exact e
      | succ j => exact h2 j i' z (by simpa using a) (by simpa using b)
    · cases h
section
variable {P : Program} {w : World} {K : PySem.W.Frag} {mg : Str → Option Value} {base : Heap}
theorem fn_ok {x qual : Str} {st : Stmt} {f : Addr} {fd : FuncData} {N ps : List Str} {k : Nat} {ios : List Nat} {fb : M Fl} (F : Fun K x qual st f fd) (S : FnScope N ps (defScope st)) (hio : ∀ i ∈ ios, i < ps.length)
    (hbody : ∀ (cdv : Value) (A : Around) (outer : List PySem.Env) (s : Shared) (H : Hp) (E : XK), Room k (A.deeper (PyProof.Rows.envOfC qual (defScope st) s.heap.objs.size f cdv)) →
      WSs ios (cxOf CX0 P w K mg base N qual (defScope st) f cdv A outer s H E).nox (defBody st) fb) : FnOk P w K mg base CX0 (k + 1) f fd ps (spOf K ps.length ios (runF N.length ios fb)) := by
  refine F.ok S (fun vs H Q E h => h.1) fun cdv A outer s H vs Q E hr h => ?_
  refine ⟨_, (hbody cdv A outer s H E hr).ps, ?_⟩
  obtain ⟨hl, Hf, xs, hxl, r, y, zs, e, q⟩ := h
  have hpl : ps.length ≤ N.length := by have := congrArg List.length S.pre; rw [List.length_take] at this; omega
  have lenA : (argE ios 0 xs).length = xs.length := by
    have : ∀ (k : Nat) (xs : List PV), (argE ios k xs).length = xs.length := by
      intro k xs
      induction xs generalizing k with
      | nil => rfl
      | cons x xs ih => simp [argE, ih]
    exact this 0 xs
  -- the entry's state
  have ent : ∀ (i : Nat) z, (argE ios 0 xs ++ List.replicate (N.length - xs.length) none)[i]? = some (some z) → (argE ios 0 xs)[i]? = some (some z) ∧ (start N vs)[i]? = (vs.map some)[i]? := fun i z hz => by
    have hi : i < (argE ios 0 xs).length := by
      by_cases hi : i < (argE ios 0 xs).length
      · exact hi
      · rw [List.getElem?_append_right (by omega), List.getElem?_replicate] at hz
        split at hz <;> cases hz
    rw [List.getElem?_append_left hi] at hz
    refine ⟨hz, ?_⟩
    unfold L2.start
    rw [List.getElem?_append_left (by rw [List.length_map]; omega)]
  have r0 : R K (argE ios 0 xs ++ List.replicate (N.length - xs.length) none) Hf (start N vs) H := r.less ent
  have ow : ∀ b, Own (argE ios 0 xs ++ List.replicate (N.length - xs.length) none) (start N vs) b → ∃ i ∈ ios, vs[i]? = some (.ref b) := fun b ⟨i, v, h1, h2⟩ => by
    obtain ⟨e1, e2⟩ := ent i _ h1
    rw [argE_get] at e1
    obtain ⟨z, _, e3⟩ := Option.map_eq_some_iff.mp e1
    have e3 := Option.some.inj e3
    have : decide (0 + i ∈ ios) = true := congrArg Prod.fst e3
    have := of_decide_eq_true this
    rw [Nat.zero_add] at this
    refine ⟨i, this, ?_⟩
    rw [e2, List.getElem?_map] at h2
    obtain ⟨u, e4, e5⟩ := Option.map_eq_some_iff.mp h2
    rw [e4, Option.some.inj e5]
  refine ⟨_, Hf, r0, ?_⟩
  unfold runF at e
  -- what every end needs
  have fin : ∀ (y : OV) (zs : List PV) (ρ' : Env), outs ρ' ios = some zs → (∀ v' Hf' H', Done K ios vs zs Hf H Hf' H' → RV K Hf' H' v' y → NewO H v' y → Q v' H') → ∀ Hf' σ' H' v', R K ρ' Hf' σ' H' → Step (argE ios 0 xs ++ List.replicate (N.length - xs.length) none) Hf (start N vs) H ρ' Hf' σ' H' → (∀ i ∈ ios, σ'[i]? = (start N vs)[i]?) →
      RO K ρ' Hf' σ' H' v' y → NewR (argE ios 0 xs ++ List.replicate (N.length - xs.length) none) (start N vs) H v' y → Q v' H' := fun y zs ρ' eo q Hf' σ' H' v' r' s' o' ro nw => by
    obtain ⟨lz, hz⟩ := outs_get eo
    have own' : ∀ i ∈ ios, ∀ b, vs[i]? = some (.ref b) → Own ρ' σ' b := fun i hi b hb => by
      obtain ⟨j, hj⟩ := List.getElem?_of_mem hi
      have jl : j < zs.length := by rw [lz]; exact (List.getElem?_eq_some_iff.mp hj).1
      refine ⟨i, zs[j], hz j i zs[j] hj (by simp [jl]), ?_⟩
      rw [o' i hi]
      unfold L2.start
      have il : i < vs.length := (List.getElem?_eq_some_iff.mp hb).1
      rw [List.getElem?_append_left (by rw [List.length_map]; exact il), List.getElem?_map, hb]
      rfl
    refine q v' Hf' H' ⟨s'.sub, r'.sub, fun b o hb hn => s'.keep b o hb fun w => ?_, fun b hb => ?_, s'.there, fun j i z hj hzj => ?_⟩ ?_ fun hy p ep => ?_
    · obtain ⟨i, hi, e⟩ := ow b w
      exact hn i hi e
    · rcases s'.new b hb with w | w | w
      · exact .inl w
      · obtain ⟨i, hi, e⟩ := ow b w
        exact absurd ((own' i hi b e).slot r').1 hb
      · exact .inr w
    · obtain ⟨p, ob, so, a1, a2, a3⟩ := r'.own (hz j i z hj hzj)
      have hi : i ∈ ios := List.mem_of_getElem? hj
      rw [o' i hi] at so
      refine ⟨p, ob, ?_, a2, a3⟩
      unfold L2.start at so
      have il : i < vs.length := by rw [hl]; exact hio i hi
      rw [List.getElem?_append_left (by rw [List.length_map]; exact il), List.getElem?_map] at so
      obtain ⟨u, e4, e5⟩ := Option.map_eq_some_iff.mp so
      rw [e4, Option.some.inj e5]
    · obtain ⟨oo, v⟩ := y
      cases oo with
      | false => exact ro
      | true => obtain ⟨p, ob, a, b, c, d, _⟩ := ro; exact ⟨p, ob, a, b, c, d⟩
    · rcases nw hy p ep with w | w
      · obtain ⟨i, hi, e⟩ := ow p w
        obtain ⟨oo, v⟩ := y
        cases hy
        obtain ⟨p', ob, e2, _, _, _, no⟩ := ro
        rw [ep] at e2; cases e2
        exact absurd (own' i hi p e) no
      · exact w
  split at e
  · rename_i y' ρ' ef
    obtain ⟨zs', eo, e2⟩ := Option.map_eq_some_iff.mp e
    cases e2
    exact wp_some ef fun Hf' σ' H' r' s' _ o' v' ro nw => fin y zs ρ' eo q Hf' σ' H' v' r' s' o' ro nw
  · rename_i ρ' ef
    obtain ⟨zs', eo, e2⟩ := Option.map_eq_some_iff.mp e
    cases e2
    exact wp_some ef fun Hf' σ' H' r' s' _ o' => fin (false, .non) zs ρ' eo q Hf' σ' H' .non r' s' o' (show Rep K Hf' .non .non from rep_non) fun z => nomatch z
  · cases e
end
end MC
set_option Elab.async false
set_option linter.all false
set_option maxRecDepth 100000
set_option maxHeartbeats 4000000
namespace MC
open PySem PySem.Spec L2
open PyProof.Rows (b2i)

/-! ### a def called -/
inductive Arg where
  | val (v : PV) | slot (i : Nat)
def ArgsRep (K : PySem.W.Frag) (Hf : Hp) (σ : Sl) : List V → List Arg → Prop
  | vs, [] => vs = []
  | vs, .val x :: r => ∃ v vr, vs = v :: vr ∧ Rep K Hf v x ∧ ArgsRep K Hf σ vr r
  | vs, .slot i :: r => ∃ v vr, vs = v :: vr ∧ σ[i]? = some (some v) ∧ ArgsRep K Hf σ vr r
theorem ArgsRep.sub {K : PySem.W.Frag} {Hf Hf' : Hp} {σ : Sl} (s : Bel Hf Hf') : ∀ {as : List Arg} {vs : List V}, ArgsRep K Hf σ vs as → ArgsRep K Hf' σ vs as
  | [], _, h => h
  | .val x :: r, _, ⟨v, vr, e, h1, h2⟩ => ⟨v, vr, e, h1.sub s, ArgsRep.sub s h2⟩
  | .slot i :: r, _, ⟨v, vr, e, h1, h2⟩ => ⟨v, vr, e, h1, ArgsRep.sub s h2⟩
def tAs (K : PySem.W.Frag) (f : M (List Arg)) : TA := fun σ H Q => ∃ ρ Hf, R K ρ Hf σ H ∧ wp f ρ fun as ρ' => ∀ vs Hf' H', R K ρ' Hf' σ H' → Step ρ Hf σ H ρ' Hf' σ H' → ArgsRep K Hf' σ vs as → Q vs H'
structure WAs (X : Cx) (es : List Expr) (f : M (List Arg)) : Prop where
  pa : PA X es (tAs X.K f)
section
variable {X : Cx} {e : Expr} {es : List Expr} {f : M PV} {g : M (List Arg)} {i : Nat}
theorem was_nil : WAs X [] (pure []) := ⟨paWeak pa_nil fun σ H Q ⟨ρ, Hf, r, w⟩ => wp_pure.mp w [] Hf H r .rfl' rfl⟩
def valM (f : M PV) (g : M (List Arg)) : M (List Arg) := f >>= fun x => g >>= fun as => pure (.val x :: as)
def slotM (i : Nat) (g : M (List Arg)) : M (List Arg) := look i >>= fun _ => g >>= fun as => pure (.slot i :: as)
theorem was_val (h : WF X e f) (t : WAs X es g) (hs : starEach (e :: es) X.env = (false, eval e X.env) :: starEach es X.env := by rfl) : WAs X (e :: es) (valM f g) := ⟨paWeak (pa_cons h.pe t.pa hs) fun σ H Q ⟨ρ, Hf, r, w⟩ => by
  unfold valM at w
  rw [wp_bind] at w
  refine ⟨ρ, Hf, r, wp_mono w fun x ρ1 w v1 Hf1 H1 r1 s1 p1 => ?_⟩
  rw [wp_bind] at w
  refine ⟨ρ1, Hf1, r1, wp_mono w fun xs ρ2 w vs2 Hf2 H2 r2 s2 p2 => ?_⟩
  exact wp_pure.mp w (v1 :: vs2) Hf2 H2 r2 (s1.trans s2) ⟨v1, vs2, rfl, p1.sub s2.sub, p2⟩⟩
theorem was_slot (h : PE X e (tVar i)) (t : WAs X es g) (hs : starEach (e :: es) X.env = (false, eval e X.env) :: starEach es X.env := by rfl) : WAs X (e :: es) (slotM i g) := ⟨paWeak (pa_cons h t.pa hs) fun σ H Q ⟨ρ, Hf, r, w⟩ => by
  unfold slotM at w
  rw [wp_bind] at w
  obtain ⟨o, v, e, w⟩ := look_inv w
  obtain ⟨v', s, _⟩ := r.opd e
  refine ⟨v', s, ?_⟩
  rw [wp_bind] at w
  refine ⟨ρ, Hf, r, wp_mono w fun xs ρ2 w vs2 Hf2 H2 r2 s2 p2 => ?_⟩
  exact wp_pure.mp w (v' :: vs2) Hf2 H2 r2 s2 ⟨v', vs2, rfl, s, p2⟩⟩
end
/-- the slots handed in where the callee does not own -/
def argSlots (ios : List Nat) : Nat → List Arg → List Nat
  | _, [] => []
  | k, .val _ :: r => argSlots ios (k + 1) r
  | k, .slot i :: r => if k ∈ ios then argSlots ios (k + 1) r else i :: argSlots ios (k + 1) r
def frzS : List Nat → Env → Env
  | [], ρ => ρ
  | i :: is, ρ => frzS is (match ρ[i]? with
    | some (some (true, v)) => frz1 ρ i v
    | _ => ρ)
def resolve (ios : List Nat) (ρ : Env) : Nat → List Arg → Option (List PV)
  | _, [] => some []
  | k, .val v :: r => if k ∈ ios then none else (resolve ios ρ (k + 1) r).map (v :: ·)
  | k, .slot i :: r => match ρ[i]? with
    | some (some (o, v)) => if o = decide (k ∈ ios) then (resolve ios ρ (k + 1) r).map (v :: ·) else none
    | _ => none
def ioSlots (as : List Arg) : List Nat → Option (List Nat)
  | [] => some []
  | k :: ks => match as[k]? with
    | some (.slot i) => (ioSlots as ks).map (i :: ·)
    | _ => none
def setIo : List Nat → List PV → Env → Env
  | i :: is, z :: zs, ρ => setIo is zs (ρ.set i (some (true, z)))
  | _, _, ρ => ρ
def callM (ios : List Nat) (F : Fn) (fas : M (List Arg)) : M OV := fas >>= fun as => fun ρ =>
  let ρf := frzS (argSlots ios 0 as) ρ
  match resolve ios ρf 0 as, ioSlots as ios with
  | some xs, some is => if is.Nodup then match F xs with
      | some (y, zs) => if ios.isEmpty && !y.1 && y.2.flat then some (y, ρ) else some (y, setIo is zs ρf)
      | none => none
    else none
  | _, _ => none
section
variable {K : PySem.W.Frag} {ρ ρ' : Env} {Hf Hf' : Hp} {σ σ' : Sl} {H H' : Hp}
theorem frzS_ok : ∀ (is : List Nat) {ρ : Env} {Hf : Hp}, R K ρ Hf σ H → ∃ Hf', R K (frzS is ρ) Hf' σ H ∧ Step ρ Hf σ H (frzS is ρ) Hf' σ H
  | [], ρ, Hf, r => ⟨Hf, r, .rfl'⟩
  | i :: is, ρ, Hf, r => by
    unfold frzS
    split
    · rename_i v e
      obtain ⟨p, ob, so, a1, a2, a3⟩ := r.own e
      have r2 := r.freeze e so a2
      obtain ⟨Hf', r3, s3⟩ := frzS_ok is r2
      exact ⟨Hf', r3, (Step.freeze r e so).trans s3⟩
    · exact frzS_ok is r
theorem frzS_len : ∀ (is : List Nat) (ρ : Env), (frzS is ρ).length = ρ.length
  | [], _ => rfl
  | i :: is, ρ => by
    unfold frzS
    rw [frzS_len is]
    split
    · unfold frz1; rw [List.length_set]
    · rfl
theorem resolve_len {ios : List Nat} {ρ : Env} : ∀ {k : Nat} {as : List Arg} {xs : List PV}, resolve ios ρ k as = some xs → xs.length = as.length
  | _, [], _, h => by cases h; rfl
  | k, .val v :: r, xs, h => by
    unfold resolve at h
    split at h
    · cases h
    · obtain ⟨ys, e, rfl⟩ := Option.map_eq_some_iff.mp h
      simp [resolve_len e]
  | k, .slot i :: r, xs, h => by
    unfold resolve at h
    split at h
    · split at h
      · obtain ⟨ys, e, rfl⟩ := Option.map_eq_some_iff.mp h
        simp [resolve_len e]
      · cases h
    · cases h
theorem ArgsRep.len : ∀ {as : List Arg} {vs : List V}, ArgsRep K Hf σ vs as → vs.length = as.length
  | [], _, h => by rw [show _ = [] from h]; rfl
  | .val x :: r, _, ⟨v, vr, e, h1, h2⟩ => by rw [e]; simp [ArgsRep.len h2]
  | .slot i :: r, _, ⟨v, vr, e, h1, h2⟩ => by rw [e]; simp [ArgsRep.len h2]
/-- each argument as the callee sees it -/
theorem resolve_at {ios : List Nat} (r : R K ρ Hf σ H) : ∀ {k : Nat} {as : List Arg} {xs : List PV} {vs : List V}, resolve ios ρ k as = some xs → ArgsRep K Hf σ vs as → ∀ (j : Nat) (x : PV), xs[j]? = some x →
    ∃ v, vs[j]? = some v ∧ (k + j ∉ ios → Rep K Hf v x) ∧ (k + j ∈ ios → ∃ i, as[j]? = some (.slot i) ∧ ρ[i]? = some (some (true, x)) ∧ σ[i]? = some (some v))
  | _, [], _, _, h, _, j, x, e => by cases h; simp at e
  | k, .val y :: rr, xs, vs, h, ⟨v, vr, ev, h1, h2⟩, j, x, e => by
    unfold resolve at h
    split at h
    · cases h
    · rename_i hk
      obtain ⟨ys, e2, rfl⟩ := Option.map_eq_some_iff.mp h
      subst ev
      cases j with
      | zero => simp at e; subst e; exact ⟨v, rfl, fun _ => h1, fun z => absurd z hk⟩
      | succ j =>
        obtain ⟨u, a, b, c⟩ := resolve_at r e2 h2 j x (by simpa using e)
        have : k + 1 + j = k + (j + 1) := by omega
        rw [this] at b c
        exact ⟨u, by simpa using a, b, fun z => let ⟨i, q⟩ := c z; ⟨i, by simpa using q.1, q.2⟩⟩
  | k, .slot i :: rr, xs, vs, h, ⟨v, vr, ev, h1, h2⟩, j, x, e => by
    unfold resolve at h
    split at h
    · rename_i o y ey
      split at h
      · rename_i ho
        obtain ⟨ys, e2, rfl⟩ := Option.map_eq_some_iff.mp h
        subst ev
        cases j with
        | zero =>
          simp at e; subst e
          refine ⟨v, rfl, fun z => ?_, fun z => ?_⟩
          · rw [Nat.add_zero] at z
            rw [decide_eq_false z] at ho
            subst ho
            obtain ⟨v', s, a, _⟩ := r.vars i false y ey
            rw [h1] at s; cases s
            exact a rfl
          · rw [Nat.add_zero] at z
            rw [decide_eq_true z] at ho
            subst ho
            exact ⟨i, rfl, ey, h1⟩
        | succ j =>
          obtain ⟨u, a, b, c⟩ := resolve_at r e2 h2 j x (by simpa using e)
          have : k + 1 + j = k + (j + 1) := by omega
          rw [this] at b c
          exact ⟨u, by simpa using a, b, fun z => let ⟨i, q⟩ := c z; ⟨i, by simpa using q.1, q.2⟩⟩
      · cases h
    · cases h
theorem ioSlots_at {as : List Arg} : ∀ {ks : List Nat} {is : List Nat}, ioSlots as ks = some is → is.length = ks.length ∧ ∀ (j k i : Nat), ks[j]? = some k → is[j]? = some i → as[k]? = some (.slot i)
  | [], is, h => by cases h; exact ⟨rfl, fun j k i e => by simp at e⟩
  | k0 :: ks, is, h => by
    unfold ioSlots at h
    split at h
    · rename_i i0 e0
      obtain ⟨r, e, rfl⟩ := Option.map_eq_some_iff.mp h
      obtain ⟨h1, h2⟩ := ioSlots_at e
      refine ⟨by simp [h1], fun j k i a b => ?_⟩
      cases j with
      | zero => simp at a b; subst a; subst b; exact e0
      | succ j => exact h2 j k i (by simpa using a) (by simpa using b)
    · cases h
theorem setIo_get : ∀ {is : List Nat} {zs : List PV} {ρ : Env} {i : Nat} {x : Bool × PV}, zs.length = is.length → is.Nodup → (setIo is zs ρ)[i]? = some (some x) → (∃ (j : Nat) (z : PV), is[j]? = some i ∧ zs[j]? = some z ∧ x = (true, z)) ∨ (i ∉ is ∧ ρ[i]? = some (some x))
  | [], zs, ρ, i, x, _, _, h => by
    have : setIo [] zs ρ = ρ := by unfold setIo; rfl
    rw [this] at h
    exact .inr ⟨by simp, h⟩
  | i0 :: is, [], _, _, _, hl, _, _ => by cases hl
  | i0 :: is, z0 :: zs, ρ, i, x, hl, nd, h => by
    unfold setIo at h
    obtain ⟨n1, n2⟩ := List.nodup_cons.mp nd
    rcases setIo_get (by simpa using hl) n2 h with ⟨j, z, a, b, c⟩ | ⟨a, b⟩
    · exact .inl ⟨j + 1, z, by simpa using a, by simpa using b, c⟩
    · rcases getSet b with ⟨rfl, e, _⟩ | ⟨ne, e⟩
      · cases e
        exact .inl ⟨0, z0, rfl, rfl, rfl⟩
      · exact .inr ⟨by simp only [List.mem_cons, not_or]; exact ⟨fun z => ne z.symm, a⟩, e⟩
end
section
variable {X : Cx} {x : Str} {p pos : Pos} {e : Expr} {es : List Expr} {fas : M (List Arg)} {ios : List Nat} {F : Fn} {k n : Nat} {f : Addr} {fd : FuncData} {ps : List Str}
theorem outs_len {F : Fn} {N : Nat} {fb : M Fl} {xs zs : List PV} {y : OV} (h : runF N ios fb xs = some (y, zs)) : zs.length = ios.length := by
  unfold runF at h
  split at h
  · obtain ⟨zs', e, e2⟩ := Option.map_eq_some_iff.mp h
    cases e2; exact (outs_get e).1
  · obtain ⟨zs', e, e2⟩ := Option.map_eq_some_iff.mp h
    cases e2; exact (outs_get e).1
  · cases h
theorem readCall {K : PySem.W.Frag} {σ : Sl} {H : Hp} {Q : VK} (hn : ∀ xs y zs, F xs = some (y, zs) → zs.length = ios.length ∧ xs.length = n) (hio : ∀ i ∈ ios, i < n) (h : tE K (callM ios F fas) σ H Q) : tCall (spOf K n ios F) [] E0 (tAs K fas) σ H Q := by
  obtain ⟨ρ, Hf, r, w⟩ := h
  unfold callM at w
  rw [wp_bind] at w
  refine ⟨ρ, Hf, r, wp_mono w fun as ρ1 w vs Hf1 H1 r1 s1 ar => ?_⟩
  unfold wp at w
  dsimp only at w
  cases e1 : resolve ios (frzS (argSlots ios 0 as) ρ1) 0 as with
  | none => rw [e1] at w; exact w.elim
  | some xs =>
  cases e2 : ioSlots as ios with
  | none => rw [e1, e2] at w; exact w.elim
  | some is =>
  rw [e1, e2] at w
  dsimp only at w
  by_cases nd : is.Nodup
  · rw [if_pos nd] at w
    cases e3 : F xs with
    | none => rw [e3] at w; exact w.elim
    | some yz =>
    obtain ⟨y, zs⟩ := yz
    rw [e3] at w
    dsimp only at w
    obtain ⟨zl, xl⟩ := hn xs y zs e3
    obtain ⟨Hf2, r2, s2⟩ := frzS_ok (argSlots ios 0 as) r1
    have ar2 := ar.sub s2.sub
    have hl : vs.length = n := by rw [ar.len, ← resolve_len e1]; exact xl
    obtain ⟨il, iat⟩ := ioSlots_at e2
    have at_ := resolve_at r2 e1 ar2
    -- the callee's entry
    have rc : R K (argE ios 0 xs) Hf2 (vs.map some) H1 := by
      have base : ∀ (j : Nat) (o : Bool) (x : PV), (argE ios 0 xs)[j]? = some (some (o, x)) → xs[j]? = some x ∧ o = decide (j ∈ ios) := fun j o x hj => by
        rw [argE_get] at hj
        obtain ⟨z, e, e'⟩ := Option.map_eq_some_iff.mp hj
        rw [Nat.zero_add] at e'
        have e' := Option.some.inj e'
        cases e'
        exact ⟨e, rfl⟩
      refine ⟨r2.sub, fun j o x hj => ?_, fun j j' x x' b h1 h2 h3 h4 => ?_⟩
      · obtain ⟨ex, eo⟩ := base j o x hj
        obtain ⟨v, ev, c1, c2⟩ := at_ j x ex
        rw [Nat.zero_add] at c1 c2
        refine ⟨v, by rw [List.getElem?_map, ev]; rfl, fun z => ?_, fun z => ?_⟩
        · rw [z] at eo; exact c1 (of_decide_eq_false eo.symm)
        · rw [z] at eo
          obtain ⟨i, _, e5, e6⟩ := c2 (of_decide_eq_true eo.symm)
          obtain ⟨p, ob, so, a1, a2, a3⟩ := r2.own e5
          rw [e6] at so
          cases so
          exact ⟨p, ob, rfl, a1, a2, a3⟩
      · obtain ⟨ex, eo⟩ := base j true x h1
        obtain ⟨ex', eo'⟩ := base j' true x' h2
        have mj := of_decide_eq_true eo.symm
        have mj' := of_decide_eq_true eo'.symm
        obtain ⟨v, ev, _, c2⟩ := at_ j x ex
        obtain ⟨v', ev', _, c2'⟩ := at_ j' x' ex'
        rw [Nat.zero_add] at c2 c2'
        obtain ⟨i, q1, q2, q3⟩ := c2 mj
        obtain ⟨i', q1', q2', q3'⟩ := c2' mj'
        rw [List.getElem?_map, ev] at h3
        rw [List.getElem?_map, ev'] at h4
        have h3 := Option.some.inj (Option.some.inj h3)
        have h4 := Option.some.inj (Option.some.inj h4)
        have ii := r2.dist i i' x x' b q2 q2' (h3 ▸ q3) (h4 ▸ q3')
        -- one slot is handed in once
        obtain ⟨a, ha⟩ := List.getElem?_of_mem mj
        obtain ⟨a', ha'⟩ := List.getElem?_of_mem mj'
        have la : a < is.length := by rw [il]; exact (List.getElem?_eq_some_iff.mp ha).1
        have la' : a' < is.length := by rw [il]; exact (List.getElem?_eq_some_iff.mp ha').1
        have w1 := iat a j is[a] ha (by simp [la])
        have w2 := iat a' j' is[a'] ha' (by simp [la'])
        rw [q1] at w1
        rw [q1'] at w2
        injection w1 with w1; injection w1 with w1
        injection w2 with w2; injection w2 with w2
        have : is[a] = is[a'] := by rw [← w1, ← w2]; exact ii
        have aa := (List.getElem_inj nd).mp this
        subst aa
        rw [ha] at ha'
        exact Option.some.inj ha'
    refine ⟨by rw [List.append_nil]; exact hl, Hf2, xs, xl, by rw [List.append_nil]; exact rc, y, zs, e3, fun v' Hf3 H3 dn rv nw => ?_⟩
    rw [List.append_nil] at dn
    have s12 := s1.trans s2
    -- cells the callee owns are the caller's own slots
    have io_own : ∀ b : Addr, (∃ i : Nat, i ∈ ios ∧ vs[i]? = some (V.ref b)) → ∃ (j i : Nat), is[j]? = some i ∧ ∃ x : PV, (frzS (argSlots ios 0 as) ρ1)[i]? = some (some (true, x)) ∧ σ[i]? = some (some (.ref b)) := fun b ⟨m, hm, hb⟩ => by
      obtain ⟨a, ha⟩ := List.getElem?_of_mem hm
      have la : a < is.length := by rw [il]; exact (List.getElem?_eq_some_iff.mp ha).1
      have ml : m < xs.length := by rw [xl]; exact hio m hm
      obtain ⟨v, ev, _, c2⟩ := at_ m xs[m] (by simp [ml])
      rw [Nat.zero_add] at c2
      obtain ⟨i, q1, q2, q3⟩ := c2 hm
      have w1 := iat a m is[a] ha (by simp [la])
      rw [q1] at w1
      injection w1 with w1; injection w1 with w1
      rw [hb] at ev
      cases ev
      exact ⟨a, i, by rw [w1]; simp [la], _, q2, q3⟩
    by_cases bor : (ios.isEmpty && !y.1 && y.2.flat) = true
    · rw [if_pos bor] at w
      obtain ⟨b1, b3⟩ := Bool.and_eq_true_iff.mp bor
      obtain ⟨b1, b2⟩ := Bool.and_eq_true_iff.mp b1
      have ei : ios = [] := by simpa using b1
      subst ei
      have kp : ∀ b o, H1 b = some o → H3 b = some o := fun b o hb => dn.keep b o hb fun i hi => by simp at hi
      have r4 : R K ρ1 Hf1 σ H3 := r1.grow .rfl' (fun a o q => by
        rcases r1.sub a o q with z | ⟨l, ob, z⟩
        · exact .inl (kp a _ z)
        · exact .inr ⟨l, ob, kp a _ z⟩) (fun b o _ h => kp b o h) fun b o => (o.slot r1).1
      have s4 : Step ρ1 Hf1 σ H1 ρ1 Hf1 σ H3 := ⟨.rfl', fun b o h _ => kp b o h, fun b h => .inl h, fun b h => .inl h, fun b h => by
        cases q : H1 b with
        | none => exact absurd q h
        | some o => rw [kp b o q]; simp⟩
      obtain ⟨o, v⟩ := y
      have eo : o = false := by simpa using b2
      subst eo
      exact w v' Hf1 H3 r4 (s1.trans s4) (Rep.flat b3 (show Rep K Hf3 v' v from rv)) fun z => nomatch z
    · rw [if_neg bor] at w
      have ownNo : ∀ b, Own (frzS (argSlots ios 0 as) ρ1) σ b → Hf3 b = none := fun b o => Classical.byContradiction fun z => by
        obtain ⟨hn, ob, hb, _⟩ := o.slot r2
        rcases dn.new b z with q | q
        · exact q hn
        · rw [hb] at q; cases q
      have r5 : R K (setIo is zs (frzS (argSlots ios 0 as) ρ1)) Hf3 σ H3 := by
        refine ⟨dn.sub', fun i o x hi => ?_, fun i j x x' b h1 h2 h3 h4 => ?_⟩
        · rcases setIo_get (by rw [zl, il]) nd hi with ⟨j, z, a, b, c⟩ | ⟨a, b⟩
          · cases c
            have jl : j < ios.length := by rw [← il]; exact (List.getElem?_eq_some_iff.mp a).1
            obtain ⟨p, ob, e4, e5, e6⟩ := dn.io j ios[j] x (by simp [jl]) b
            have ml : ios[j] < xs.length := by rw [xl]; exact hio _ (List.getElem_mem jl)
            obtain ⟨v, ev, _, c2⟩ := at_ ios[j] xs[ios[j]] (by simp [ml])
            rw [Nat.zero_add] at c2
            obtain ⟨i', q1, q2, q3⟩ := c2 (List.getElem_mem jl)
            have w1 := iat j ios[j] i (by simp [jl]) a
            rw [q1] at w1
            injection w1 with w1; injection w1 with w1
            subst w1
            rw [e4] at ev; cases ev
            exact ⟨.ref p, q3, fun z => Bool.noConfusion z, fun _ => ⟨p, ob, rfl, ownNo p ⟨i', _, q2, q3⟩, e5, e6⟩⟩
          · obtain ⟨v', so, c1, c2⟩ := r2.vars i o x b
            refine ⟨v', so, fun z => (c1 z).sub dn.sub, fun z => ?_⟩
            obtain ⟨p, ob, rfl, d1, d2, d3⟩ := c2 z
            subst z
            have ow : Own (frzS (argSlots ios 0 as) ρ1) σ p := ⟨i, x, b, so⟩
            refine ⟨p, ob, rfl, ownNo p ow, dn.keep p ob d2 fun m hm hb => ?_, d3.sub dn.sub⟩
            obtain ⟨j, i', ej, x2, e4, e5⟩ := io_own p ⟨m, hm, hb⟩
            have := r2.dist i i' x x2 p b e4 so e5
            subst this
            exact a (List.mem_of_getElem? ej)
        · have inFz : ∀ (i : Nat) x, (setIo is zs (frzS (argSlots ios 0 as) ρ1))[i]? = some (some (true, x)) → ∃ x', (frzS (argSlots ios 0 as) ρ1)[i]? = some (some (true, x')) := fun i x hi => by
            rcases setIo_get (by rw [zl, il]) nd hi with ⟨j, z, a, b, c⟩ | ⟨a, b⟩
            · have jl : j < ios.length := by rw [← il]; exact (List.getElem?_eq_some_iff.mp a).1
              have ml : ios[j] < xs.length := by rw [xl]; exact hio _ (List.getElem_mem jl)
              obtain ⟨v, ev, _, c2⟩ := at_ ios[j] xs[ios[j]] (by simp [ml])
              rw [Nat.zero_add] at c2
              obtain ⟨i', q1, q2, q3⟩ := c2 (List.getElem_mem jl)
              have w1 := iat j ios[j] i (by simp [jl]) a
              rw [q1] at w1
              injection w1 with w1; injection w1 with w1
              subst w1
              exact ⟨_, q2⟩
            · exact ⟨x, b⟩
          obtain ⟨y1, k1⟩ := inFz i x h1
          obtain ⟨y2, k2⟩ := inFz j x' h2
          exact r2.dist i j y1 y2 b k1 k2 h3 h4
      have ownTo : ∀ b, Own (setIo is zs (frzS (argSlots ios 0 as) ρ1)) σ b → Own (frzS (argSlots ios 0 as) ρ1) σ b := fun b ⟨i, x, h1, h2⟩ => by
        rcases setIo_get (by rw [zl, il]) nd h1 with ⟨j, z, a, b', c⟩ | ⟨a, b'⟩
        · have jl : j < ios.length := by rw [← il]; exact (List.getElem?_eq_some_iff.mp a).1
          have ml : ios[j] < xs.length := by rw [xl]; exact hio _ (List.getElem_mem jl)
          obtain ⟨v, ev, _, c2⟩ := at_ ios[j] xs[ios[j]] (by simp [ml])
          rw [Nat.zero_add] at c2
          obtain ⟨i', q1, q2, q3⟩ := c2 (List.getElem_mem jl)
          have w1 := iat j ios[j] i (by simp [jl]) a
          rw [q1] at w1
          injection w1 with w1; injection w1 with w1
          subst w1
          exact ⟨i', _, q2, h2⟩
        · exact ⟨i, x, b', h2⟩
      have s5 : Step (frzS (argSlots ios 0 as) ρ1) Hf2 σ H1 (setIo is zs (frzS (argSlots ios 0 as) ρ1)) Hf3 σ H3 := by
        refine ⟨dn.sub, fun b o hb no => dn.keep b o hb fun m hm hmb => ?_, fun b hb => ?_, fun b o => .inl (ownTo b o), dn.there⟩
        · obtain ⟨j, i', ej, x2, e4, e5⟩ := io_own b ⟨m, hm, hmb⟩
          exact no ⟨i', x2, e4, e5⟩
        · rcases dn.new b hb with q | q
          · exact .inl q
          · exact .inr (.inr q)
      refine w v' Hf3 H3 r5 (s12.trans s5) ?_ (newTo s12.there nw)
      obtain ⟨o, v⟩ := y
      cases o with
      | false => exact rv
      | true =>
        obtain ⟨p, ob, rfl, a1, a2, a3⟩ := rv
        refine ⟨p, ob, rfl, a1, a2, a3, fun o => ?_⟩
        obtain ⟨_, ob', hb, _⟩ := (ownTo p o).slot r2
        rw [nw rfl p rfl] at hb
        cases hb
  · rw [if_neg nd] at w; exact w.elim
theorem we_call (G : FnOk X.prog X.w X.K X.mg X.base CX0 k f fd ps (spOf X.K n ios F)) (hF : ∀ xs y zs, F xs = some (y, zs) → zs.length = ios.length ∧ xs.length = n) (hio : ∀ i ∈ ios, i < n) (hr : Room k X.A) (hg : Gl X x) (hmg : X.mg x = some (.ref f))
    (hk : PySem.W.keepIn X.K (.ref f) = true) (hb : Binds X.K fd ps []) (ha : WAs X (e :: es) fas) (hdb : (x == ("__debug__" : Str)) = false := by decide) (he : starEach (e :: es) X.env = (false, eval e X.env) :: starEach es X.env := by rfl) (hpl : (backTo pos (starEach es X.env)).any (·.1) = false := by rfl) :
    WE X (.Call (.Name x p) (e :: es) [] pos) (callM ios F fas) :=
  ⟨peWeak (pe_call G hr hg hmg hk hb .nil pass0 ha.pa hdb he hpl) fun _ _ _ q => readCall hF hio q⟩
theorem we_call0 (G : FnOk X.prog X.w X.K X.mg X.base CX0 k f fd ps (spOf X.K n ios F)) (hF : ∀ xs y zs, F xs = some (y, zs) → zs.length = ios.length ∧ xs.length = n) (hio : ∀ i ∈ ios, i < n) (hr : Room k X.A) (hg : Gl X x) (hmg : X.mg x = some (.ref f))
    (hk : PySem.W.keepIn X.K (.ref f) = true) (hb : Binds X.K fd ps []) (hdb : (x == ("__debug__" : Str)) = false := by decide) :
    WE X (.Call (.Name x p) [] [] pos) (callM ios F (pure [])) :=
  ⟨peWeak (pe_call0 G hr hg hmg hk hb .nil pass0 hdb) fun σ H Q q => by
    have := readCall hF hio q
    obtain ⟨ρ, Hf, r, w⟩ := this
    exact wp_pure.mp w [] Hf H r .rfl' rfl⟩
end
end MC
set_option Elab.async false
set_option linter.all false
set_option maxRecDepth 100000
set_option maxHeartbeats 4000000
namespace MC
open PySem PySem.Spec L2

/-! ### room -/
section
variable {k : Nat} {A : Around}
theorem _root_.L2.Room.u64 (r : Room k A) : A.units + 64 < cLine := by have := r.un; omega
theorem _root_.L2.Room.u65 (r : Room k A) : A.units + 65 < cLine := by have := r.un; omega
theorem _root_.L2.Room.u0 (r : Room k A) : A.units < cLine := by have := r.un; omega
theorem _root_.L2.Room.u1 (r : Room k A) : A.units + 1 < cLine := by have := r.un; omega
end

section
variable {X : Cx} {a e o : Expr} {fa fo : M PV} {T : String} {p pos apos : Pos}
def isiM (T : String) (x : PV) : Option OV := if tyName x = "dict" then none else isiP T x
/-- a constant of the module -/
theorem wf_globI {x : Str} {i : Int} (hg : Gl X x) (hm : ∃ t, X.mg x = some (.int i t)) (hd : (x == ("__debug__" : Str)) = false := by decide) : WF X (.Name x pos) (pure (.int i)) := by
  obtain ⟨t, hm⟩ := hm
  exact wf_flat (pe_glob (v := .int i) hg hm ⟨t, rfl⟩ hd) fun _ _ => rep_int
end

/-! ### sep.join(reversed(a list)) -/
theorem strsAre_of : ∀ {ys : List Str} {its : List Value}, Vals (ys.map V.str) its → PyProof.Rows.StrsAre its ys
  | [], _, r => by cases r; exact .nil
  | y :: ys, _, r => by
    cases r with
    | cons r rr => obtain ⟨t, rfl⟩ := r; exact .cons y t (strsAre_of rr)
theorem join_rev {prog : Program} {w : World} {A : Around} {E : Value → Shared → Prop} {s : Shared} {x : Str} {t : Tok} {it l : Addr} {items : Array Value} {ys : List Str} {Q : Value → Shared → Prop} (hh : A.handled = none) (hit : s.heap.IsRevIter it l ((items.size : Int) - 1)) (hl : s.heap.IsList l items) (hne : l ≠ it) (hn : items.size ≤ sizeLine)
    (hP : ∀ acc : Array Value, ItemsOf (fun i v => items[items.size - 1 - i]? = some v) acc items.size → PyProof.Rows.StrsAre acc.toList ys) (hok : (ys.map (·.length)).sum + ys.length * x.length ≤ 16777216)
    (hq : ∀ (h' : Heap) t' k, (∀ b o, b ≠ it → s.heap.get? b = some o → h'.get? b = some o) → Q (.str (Txt.join x ys) t') { s with heap := h', toks := k }) :
    wpAny (model prog w) A (call (.builtin "str.join") [.str x t, .ref it]) Q E s := by
  refine wpAny_call (codeAny_call_builtin F.slot_str_join.plain F.entry_str_join (F.slot_str_join.check _ _ _ _ _ _ _ _ (typeIs_str _ _ _) (F.args_str_join_2 _ _) ?_))
  rw [join_tree_other]
  refine wpAny_bind (wpAny_typeOf (Heap.IsRevIter.typeIs hit) ?_)
  show wpAny _ A.in1 ((pyIter (.ref it)).tryCatch _ >>= fun it => collect it >>= fun items => joinTail x items) _ _ s
  refine wpAny_bind (wpAny_tryCatch (wpAny_pyIter_revIter hit ?_))
  refine wpAny_bind (RT.collect_rev (show A.in1.handled = none from hh) hit hl hne hn fun h' tk acc hk hacc => ?_)
  obtain ⟨l, hl, ht⟩ := PyProof.Rows.strsAre_values (hP acc hacc)
  subst ht
  rw [hl]
  have hok' := PyProof.Rows.joinOk_of hok
  unfold JoinOk at hok'
  rw [Bool.not_eq_true'] at hok'
  have g : Gives (joinTail x (strValues l)) (joinMade x l) := by
    have g0 := gives_joinTail x l hok'
    cases l with
    | nil => exact g0
    | cons p r => cases r with
      | nil => exact g0
      | cons q r' => exact g0
  exact g prog w A (wants Q E) _ (post_join l ⟨joinFit_length hok', fun t' k => hq h' t' k hk⟩)
def tJoinRev (K : PySem.W.Frag) (to te : TE) : TE := fun σ H Q => to σ H fun x H1 => (∃ a, x = .str a) ∧ te σ H1 fun v H2 => ∃ (a : Str) (q : Addr) (xs : List V) (ys : List Str),
  x = .str a ∧ v = .ref q ∧ SqL K H2 q xs ∧ xs.reverse = ys.map V.str ∧ (ys.map (·.length)).sum + ys.length * a.length ≤ 16777216 ∧ Q (.str (Txt.join a ys)) H2
section
variable {X : Cx}
theorem pe_joinRev {o e : Expr} {to te : TE} {apos pos p pos2 : Pos} (hc : X.calm = true) (ho : PE X o to) (hg2 : Gl X "reversed") (hm2 : X.mg "reversed" = none) (he : PE X e te)
    (hs1 : starEach [.Call (.Name "reversed" p) [e] [] pos2] X.env = [(false, eval (.Call (.Name "reversed" p) [e] [] pos2) X.env)] := by rfl)
    (hs : starEach [e] X.env = (false, eval e X.env) :: starEach [] X.env := by rfl)
    (hbase : attributeBase o "join" X.env (eval o X.env) = eval o X.env := by rfl) (hline : (apos.endLine == pos.line) = true := by rfl) :
    PE X (.Call (.Attribute o "join" apos) [.Call (.Name "reversed" p) [e] [] pos2] [] pos) (tJoinRev X.K to te) := by
  refine ⟨fun pins s σ H Q I h => ?_⟩
  refine PySem.Call_method1 hbase hs1 hline (thn (ho.run pins s σ H _ I h) fun v s1 ⟨x, H1, I1, r1, q1⟩ => ?_)
  obtain ⟨⟨a, rfl⟩, q1⟩ := q1
  obtain ⟨t, rfl⟩ := _root_.id r1
  refine ⟨"str", _, F.plainAttrs_str, F.slot_str_join, F.type_str_join, typeIs_str _ _ _, (fun _ e => nomatch e), Calls.callWith_builtin rfl (Calls.evalArgs_plain (Calls.spliced_cons ?_))⟩
  refine PyProof.Rows.Call_ (ld_blt I1 hg2 hm2 PyProof.Rows.boot_reversed (PyProof.Rows.callWith_type1 (PyProof.Rows.args_cons (thn (he.run pins s1 σ H1 _ I1 q1) fun u s2 ⟨v, H2, I2, r2, q2⟩ => PyProof.Rows.args_nil ?_) hs) hs rfl))
  obtain ⟨a', q, xs, ys, ea, rfl, hq, hr, hz, q2⟩ := q2
  cases ea
  obtain rfl : u = Value.ref q := r2
  obtain ⟨its, rv, p', hsz⟩ := I2.list hq
  refine PySem.call_reversed_list p'.isList (Calls.spliced_nil ?_)
  have k0 : ∀ b o, s2.heap.get? b = some o → (s2.heap.push (PySem.revObj q ((its.toArray.size : Int) - 1))).get? b = some o := fun b o e => Heap.get?_push_of_some _ e
  have I3 : Inv X pins σ H2 { s2 with heap := s2.heap.push (PySem.revObj q ((its.toArray.size : Int) - 1)) } := I2.kept (t' := s2.toks) k0
  obtain ⟨f0, f1, f2, f3, f4, f5⟩ := I2.fpOk (H' := H2) (b := s2.heap.objs.size) (Nat.le_refl _) (I2.hok.fresh (Nat.le_refl _))
  have hl := p'.isList
  obtain ⟨ol, hol, _⟩ := _root_.id hl
  have hne : q ≠ s2.heap.objs.size := Nat.ne_of_lt (Heap.lt_size hol)
  have hn : its.toArray.size ≤ sizeLine := by rw [List.size_toArray, ← rv.length]; exact hsz
  refine join_rev (s := { s2 with heap := s2.heap.push (PySem.revObj q ((its.toArray.size : Int) - 1)) }) (ys := ys) (I2.ok.hd hc) ⟨_, Heap.get?_push_size _ rfl, rfl, rfl⟩ (hl.push _) hne hn (fun acc hi => ?_) hz fun h' t' k hk => ?_
  · exact strsAre_of (hr ▸ RT.vals_rev rv hi)
  · exact ⟨.str _, H2, I3.turned (t' := k) (fun b o hb e => hk b o hb e) f0 f1 f3 f4 f5, ⟨t', rfl⟩, q2⟩
end
def joinRevP (a : Str) : PV → Option OV
  | .lst xs => joinP a [.lst xs.reverse]
  | .sq true xs => joinP a [.lst xs.reverse]
  | _ => none
def joinRevM (fo fa : M PV) : M OV := fo >>= fun x => match x with
  | .str a => fa >>= fun y => lift (joinRevP a y)
  | _ => bad
section
variable {X : Cx} {e o : Expr} {fa fo : M PV} {p pos pos2 apos : Pos}
theorem joinP_inv {a : Str} {xs : List PV} {r : OV} (e : joinP a [.lst xs] = some r) : ∃ ys : List Str, xs = ys.map PV.str ∧ (ys.map (·.length)).sum + ys.length * a.length ≤ 16777216 ∧ r = (false, .str (Txt.join a ys)) := by
  unfold joinP at e
  obtain ⟨ys, e1, e⟩ := Option.bind_eq_some_iff.mp e
  obtain ⟨c, e⟩ := when_some e
  cases e
  exact ⟨ys, strsOf_some e1, of_decide_eq_true c, rfl⟩
theorem we_joinRev (hc : X.calm = true) (hg : Gl X "reversed") (hm : X.mg "reversed" = none) (ho : WO X o fo) (he : WF X e fa)
    (hs1 : starEach [.Call (.Name "reversed" p) [e] [] pos2] X.env = [(false, eval (.Call (.Name "reversed" p) [e] [] pos2) X.env)] := by rfl)
    (hs : starEach [e] X.env = (false, eval e X.env) :: starEach [] X.env := by rfl)
    (hbase : attributeBase o "join" X.env (eval o X.env) = eval o X.env := by rfl) (hline : (apos.endLine == pos.line) = true := by rfl) :
    WE X (.Call (.Attribute o "join" apos) [.Call (.Name "reversed" p) [e] [] pos2] [] pos) (joinRevM fo fa) := ⟨peWeak (pe_joinRev hc ho.pe hg hm he.pe hs1 hs hbase hline) fun σ H Q ⟨ρ, Hf, r, w⟩ => by
  unfold joinRevM at w
  rw [wp_bind] at w
  refine ⟨ρ, Hf, r, wp_mono w fun x ρ1 w v1 Hf1 H1 r1 s1 p1 => ?_⟩
  cases x with
  | str a =>
    have w : wp (fa >>= fun y => lift (joinRevP a y)) ρ1 _ := w
    rw [wp_bind] at w
    refine ⟨⟨a, opd_str p1⟩, ρ1, Hf1, r1, wp_mono w fun y ρ2 w v2 Hf2 H2 r2 s2 p2 => ?_⟩
    rw [wp_lift] at w
    obtain ⟨z, e, k⟩ := w
    have fin : ∀ (q : Addr) (vs : List V) (xs : List PV), v2 = .ref q → SqL X.K H2 q vs → Reps X.K Hf2 vs xs → joinP a [.lst xs.reverse] = some z → ∃ (a' : Str) (q : Addr) (xs : List V) (ys : List Str),
        v1 = .str a' ∧ v2 = .ref q ∧ SqL X.K H2 q xs ∧ xs.reverse = ys.map V.str ∧ (ys.map (·.length)).sum + ys.length * a'.length ≤ 16777216 ∧ Q (.str (Txt.join a' ys)) H2 := fun q vs xs ev hq ra ez => by
      obtain ⟨ys, exs, hf, rfl⟩ := joinP_inv ez
      have rr := ra.reverse
      rw [exs] at rr
      exact ⟨a, q, vs, ys, opd_str p1, ev, hq, reps_strs rr, hf, k _ Hf2 H2 r2 (s1.trans s2) (show Rep X.K Hf2 _ _ from rep_str) fun z => nomatch z⟩
    unfold joinRevP at e
    split at e
    · unfold Rep at p2
      obtain ⟨q, vs, rfl, hq, ra⟩ := p2
      exact fin q vs _ rfl (SqL.of (r2.sub.lst hq)) ra e
    · unfold Rep at p2
      obtain ⟨q, vs, rfl, hq, ra⟩ := p2
      exact fin q vs _ rfl (r2.sub.sqL hq) ra e
    · cases e
  | _ => exact w.elim⟩
end

/-! ### list(range(a, b)) -/
def rgOk (i j : Int) : Bool := decide ((j - i).toNat ≤ 2 ^ 24)
def rgL (i j : Int) : Option OV := if rgOk i j = true then some (true, .lst (rangeL i j)) else none
def listRg2M (fa fb : M PV) : M OV := fa >>= fun x => fb >>= fun y => match x, y with
  | .int i, .int j => lift (rgL i j)
  | _, _ => bad
def listRg1M (fa : M PV) : M OV := fa >>= fun x => match x with
  | .int j => lift (rgL 0 j)
  | _ => bad
section
variable {X : Cx} {a b : Expr} {fa fb : M PV} {p pos p2 pos2 : Pos}
theorem rep_rg {K : PySem.W.Frag} {H : Hp} (i j : Int) : Reps K H (rgV i j) (rangeL i j) := by
  have : ∀ l : List Nat, Reps K H (l.map fun k : Nat => V.int (i + k)) (l.map fun k : Nat => PV.int (i + k)) := fun l => by
    induction l with
    | nil => exact .nil
    | cons k l ih => exact .cons rep_int ih
  exact this _
theorem rg_fin {K : PySem.W.Frag} {ρ ρ1 : Env} {Hf Hf1 : Hp} {σ : Sl} {H H1 : Hp} {Q : VK} {i j : Int} (r1 : R K ρ1 Hf1 σ H1) (s1 : Step ρ Hf σ H ρ1 Hf1 σ H1)
    (w : wp (lift (rgL i j)) ρ1 fun x ρ' => ∀ v' Hf' H', R K ρ' Hf' σ H' → Step ρ Hf σ H ρ' Hf' σ H' → RO K ρ' Hf' σ H' v' x → NewO H v' x → Q v' H') : (j - i).toNat ≤ 2 ^ 24 ∧ ∀ q, H1 q = none → Q (.ref q) (upd H1 q (.lst (rgV i j))) := by
  rw [wp_lift] at w
  obtain ⟨z, e, k⟩ := w
  unfold rgL at e
  split at e
  · rename_i c
    cases e
    refine ⟨of_decide_eq_true c, fun q hq => ?_⟩
    obtain ⟨Hf3, r3, s3, ro, nw⟩ := (Res1.lst hq (rep_rg i j)).use r1
    exact k _ Hf3 _ r3 (s1.trans s3) ro (newTo s1.there nw)
  · cases e
theorem we_listRg2 (hc : X.calm = true) (hg : Gl X "list") (hm : X.mg "list" = none) (hg2 : Gl X "range") (hm2 : X.mg "range" = none) (ha : WF X a fa) (hb : WO X b fb)
    (na : starEach [a, b] X.env = (false, eval a X.env) :: starEach [b] X.env := by rfl) (nb : starEach [b] X.env = (false, eval b X.env) :: starEach [] X.env := by rfl) (hp : (backTo pos2 (starEach [b] X.env)).any (·.1) = false := by rfl)
    (ne : starEach [.Call (.Name "range" p2) [a, b] [] pos2] X.env = (false, eval (.Call (.Name "range" p2) [a, b] [] pos2) X.env) :: starEach [] X.env := by rfl) :
    WE X (.Call (.Name "list" p) [.Call (.Name "range" p2) [a, b] [] pos2] [] pos) (listRg2M fa fb) :=
  ⟨peWeak (pe_listRgL hc hg hm (prg_2 hg2 hm2 ha.pe hb.pe na nb hp) ne) fun σ H Q ⟨ρ, Hf, r, w⟩ => by
    unfold listRg2M at w
    rw [wp_bind] at w
    refine ⟨ρ, Hf, r, wp_mono w fun x ρ1 w v1 Hf1 H1 r1 s1 p1 => ?_⟩
    rw [wp_bind] at w
    refine ⟨ρ1, Hf1, r1, wp_mono w fun y ρ2 w v2 Hf2 H2 r2 s2 p2 => ?_⟩
    cases x with
    | int i =>
      cases y with
      | int j =>
        refine ⟨i, j, ?_, opd_int p2, rg_fin r2 (s1.trans s2) w⟩
        unfold Rep at p1
        exact p1
      | _ => exact w.elim
    | _ => exact w.elim⟩
theorem we_listRg1 (hc : X.calm = true) (hg : Gl X "list") (hm : X.mg "list" = none) (hg2 : Gl X "range") (hm2 : X.mg "range" = none) (ha : WO X a fa)
    (na : starEach [a] X.env = (false, eval a X.env) :: starEach [] X.env := by rfl)
    (ne : starEach [.Call (.Name "range" p2) [a] [] pos2] X.env = (false, eval (.Call (.Name "range" p2) [a] [] pos2) X.env) :: starEach [] X.env := by rfl) :
    WE X (.Call (.Name "list" p) [.Call (.Name "range" p2) [a] [] pos2] [] pos) (listRg1M fa) :=
  ⟨peWeak (pe_listRgL hc hg hm (prg_1 hg2 hm2 ha.pe na) ne) fun σ H Q ⟨ρ, Hf, r, w⟩ => by
    unfold listRg1M at w
    rw [wp_bind] at w
    refine ⟨ρ, Hf, r, wp_mono w fun x ρ1 w v1 Hf1 H1 r1 s1 p1 => ?_⟩
    cases x with
    | int j => exact ⟨j, opd_int p1, rg_fin r1 s1 w⟩
    | _ => exact w.elim⟩
end

/-! ### the module's defs -/
def fnOf (n N : Nat) (ios : List Nat) (f : M Fl) : Fn := fun xs => if xs.length = n then runF N ios f xs else none
structure Dfn (K : PySem.W.Frag) (mg : Str → Option Value) (x : Str) (st : Stmt) (ps : List Str) : Prop where
  ex : ∃ f fd, mg x = some (.ref f) ∧ L2.Fun K x x st f fd ∧ Binds K fd ps []
structure Cal (P : Program) (w : World) (K : PySem.W.Frag) (mg : Str → Option Value) (base : Heap) (k : Nat) (x : Str) (ps : List Str) (ios : List Nat) (F : Fn) : Prop where
  ex : ∃ f fd, mg x = some (.ref f) ∧ FnOk P w K mg base CX0 k f fd ps (spOf K ps.length ios F) ∧ PySem.W.keepIn K (.ref f) = true ∧ Binds K fd ps [] ∧ ∃ oc od osl, K.lookup f = some ⟨oc, od, .func fd, osl⟩
  len : ∀ xs y zs, F xs = some (y, zs) → zs.length = ios.length ∧ xs.length = ps.length
  io : ∀ i ∈ ios, i < ps.length
section
variable {P : Program} {w : World} {K : PySem.W.Frag} {mg : Str → Option Value} {base : Heap}
theorem dfn_mk {h : Heap} {x : Str} {st : Stmt} {ps : List Str} {f : Addr} {oc : Value} {od an : Option Addr} {osl : Array (Option Value)} {kV doc pm cdv ct : Value} (X : K.In h) (G : h.Ns mainGlobals mg)
    (a : PySem.W.nsIn K mainGlobals x = some (some (.ref f))) (l : K.lookup f = some ⟨oc, od, .func (PySem.W.fnOf x x (defArgs st) (defBody st) (defScope st) .none kV doc pm an cdv ct), osl⟩)
    (c : PySem.W.codeIn K cdv x = true) (k : PySem.W.keepIn K (.ref f) = true)
    (b : ∀ (kV doc pm : Value) (an : Option Addr) (cdv ct : Value) (us : List Value), us.length = ps.length → bindArgs (PySem.W.fnOf x x (defArgs st) (defBody st) (defScope st) .none kV doc pm an cdv ct) ⟨us, []⟩ = pure (ps.zip us)) : Dfn K mg x st ps :=
  ⟨_, _, PySem.W.mg_of X G a, fun_mk l c k, (fun_mk l c k).binds b⟩
theorem Dfn.cal {x : Str} {st : Stmt} {N ps : List Str} {k : Nat} {ios : List Nat} {fb : M Fl} (D : Dfn K mg x st ps) (S : FnScope N ps (defScope st)) (hio : ∀ i ∈ ios, i < ps.length)
    (hbody : ∀ (f : Addr) (cdv : Value) (A : Around) (outer : List PySem.Env) (s : Shared) (H : Hp) (E : XK), Room k (A.deeper (PyProof.Rows.envOfC x (defScope st) s.heap.objs.size f cdv)) →
      WSs ios (cxOf CX0 P w K mg base N x (defScope st) f cdv A outer s H E).nox (defBody st) fb) : Cal P w K mg base (k + 1) x ps ios (fnOf ps.length N.length ios fb) := by
  obtain ⟨f, fd, hm, F, hb⟩ := D.ex
  refine ⟨⟨f, fd, hm, (fn_ok F S hio (hbody f)).imp fun vs H Q E h => ?_, F.kp, hb, ?_⟩, fun xs y zs h => ?_, hio⟩
  · obtain ⟨h1, Hf, xs, h2, r, y, zs, e, q⟩ := h
    refine ⟨h1, Hf, xs, h2, r, y, zs, ?_, q⟩
    unfold fnOf at e
    rw [if_pos h2] at e
    exact e
  · obtain ⟨oc, od, kV, doc, pm, an, cdv, ct, osl, rfl, lk, _⟩ := F.ex
    exact ⟨_, _, _, lk⟩
  · unfold fnOf at h
    split at h
    · rename_i hl
      exact ⟨outs_len (F := fun _ => none) h, hl⟩
    · cases h
/-- a def that is never called: the bottom of a recursion -/
theorem Dfn.cal0 {x : Str} {st : Stmt} {N ps : List Str} {k : Nat} {ios : List Nat} (D : Dfn K mg x st ps) (S : FnScope N ps (defScope st)) (hio : ∀ i ∈ ios, i < ps.length) : Cal P w K mg base k x ps ios (fun _ => none) := by
  obtain ⟨f, fd, hm, F, hb⟩ := D.ex
  obtain ⟨oc, od, kV, doc, pm, an, cdv, ct, osl, e, lk, _⟩ := F.ex
  refine ⟨⟨f, fd, hm, ⟨fun vs H Q E h => h.1, fun A outer s H args us vs Q E hr e0 hbd r h => ?_⟩, F.kp, hb, ⟨_, _, _, lk⟩⟩, fun xs y zs h => (nomatch h), hio⟩
  obtain ⟨_, _, _, _, _, _, _, e2, _⟩ := h
  cases e2
end
section
variable {X : Cx} {x : Str} {p pos : Pos} {e : Expr} {es : List Expr} {fas : M (List Arg)} {ios : List Nat} {F : Fn} {k j : Nat} {ps : List Str}
theorem Cal.we (C : Cal X.prog X.w X.K X.mg X.base k x ps ios F) (hr : Room j X.A) (hk : k ≤ j) (hg : Gl X x) (ha : WAs X (e :: es) fas) (hdb : (x == ("__debug__" : Str)) = false := by decide) (he : starEach (e :: es) X.env = (false, eval e X.env) :: starEach es X.env := by rfl) (hpl : (backTo pos (starEach es X.env)).any (·.1) = false := by rfl) :
    WE X (.Call (.Name x p) (e :: es) [] pos) (callM ios F fas) := by
  obtain ⟨f, fd, hm, G, kp, hb, _⟩ := C.ex
  exact we_call G C.len C.io (hr.mono hk) hg hm kp hb ha hdb he hpl
theorem Cal.we0 (C : Cal X.prog X.w X.K X.mg X.base k x ps ios F) (hr : Room j X.A) (hk : k ≤ j) (hg : Gl X x) (hdb : (x == ("__debug__" : Str)) = false := by decide) :
    WE X (.Call (.Name x p) [] [] pos) (callM ios F (pure [])) := by
  obtain ⟨f, fd, hm, G, kp, hb, _⟩ := C.ex
  exact we_call0 G C.len C.io (hr.mono hk) hg hm kp hb hdb
end

/-! ### the law -/
theorem law_of {P : Program} {w : World} {K : PySem.W.Frag} {mg : Str → Option Value} {fa : Addr} {st : Stmt} {k : Nat} {F : Fn} (hmg : mg "law" = some (.ref fa)) (D : Dfn K mg "law" st ["script"])
    (hb : ∀ fd (kV doc pm : Value) (an : Option Addr) (cdv ct : Value), fd = PySem.W.fnOf "law" "law" (defArgs st) (defBody st) (defScope st) .none kV doc pm an cdv ct → ∀ (s : Shared) (u : Value), BindsTo s fd ⟨[u], []⟩ [("script", u)])
    (C : ∀ base : Heap, K.In base → base.Ns mainGlobals mg → Cal P w K mg base k "law" ["script"] [] F) :
    ∃ fd : FuncData, (∀ (s : Shared) (u : Value), BindsTo s fd ⟨[u], []⟩ [("script", u)]) ∧
      ∀ base : Heap, K.In base → base.Ns mainGlobals mg → FnOk P w K mg base CX0 k fa fd ["script"] (spOf K 1 [] F) := by
  obtain ⟨f, fd, hm, Fn, _⟩ := D.ex
  rw [hmg] at hm
  cases hm
  obtain ⟨oc, od, kV, doc, pm, an, cdv, ct, osl, rfl, lk, _⟩ := Fn.ex
  refine ⟨_, hb _ kV doc pm an cdv ct rfl, fun base h1 h2 => ?_⟩
  obtain ⟨f2, fd2, hm2, G, _, _, _, _, _, lk2⟩ := (C base h1 h2).ex
  rw [hmg] at hm2
  cases hm2
  rw [lk] at lk2
  cases lk2
  exact G
theorem law_end {l : PySem.W.OpenLaw} {k : Nat} {q : Program} {loose : List Str} {XP : (Str → Option Value) → Heap → Prop} {YP : World → Heap → Prop} {d : DefRec} {K : Params → PySem.W.Frag} {F : Fn}
    (hn : l.most = some 63) (hdf : d.params.defaults = []) (hY : ∀ (w : World) (h : Heap), YP w h → (K w.params).In h) (hk : (Around.depth callerA + 3 * k + 5 < recursionLimit) ∧ (Around.units callerA + 16 * k + 200 < cLine))
    (hF : ∀ ns : List Int, ns.length ≤ 63 → F [.sq true (ns.map .int)] = some ((false, .bl true), []))
    (G : ∀ (w : World) (mg : Str → Option Value) (fa : Addr) (h : Heap), (K w.params).In h → h.Ns mainGlobals mg → mg d.name = some (.ref fa) →
      ∃ fd : FuncData, (∀ (s : Shared) (u : Value), BindsTo s fd ⟨[u], []⟩ [("script", u)]) ∧
        ∀ base : Heap, (K w.params).In base → base.Ns mainGlobals mg → FnOk l.prog w (K w.params) mg base CX0 k fa fd ["script"] (spOf (K w.params) 1 [] F)) :
    PySem.W.WalkO q loose XP YP l.row.toRowW d [] (fun f vs => PySem.call f vs) := by
  refine L2.walk_of (n := 63) (k := k) (x := "script") (CX := fun _ => CX0) (sp := fun w => spOf (K w.params) 1 [] F) hn (by decide) hdf ⟨rfl, hk.1, hk.2⟩ hY G (fun w H a ns hl hO hS => ?_) fun _ _ _ _ _ z => z
  have rp : Rep (K w.params) H (.ref a) (.sq true (ns.map .int)) := by unfold Rep; exact ⟨a, _, rfl, hS, Reps.ints ns⟩
  refine ⟨rfl, H, [.sq true (ns.map .int)], rfl, ⟨.rfl', fun i o v h => ?_, fun i j v w b h => ?_⟩, _, _, hF ns hl, fun v' Hf' H' dn rv nw => rv⟩
  · cases i with
    | zero => cases h; exact ⟨_, rfl, fun _ => rp, fun z => Bool.noConfusion z⟩
    | succ i => cases h
  · cases i with
    | zero => cases h
    | succ i => cases h
end MC
set_option Elab.async false
set_option linter.all false
set_option maxRecDepth 100000
set_option maxHeartbeats 4000000
/-! sorted(xs) of any alike data; sorted(xs, key=f), f a def of the program. -/
namespace MC
open PySem PySem.Spec L2 PySem.W PyProof.Rows

/-- what can be sorted -/
def OkKeys (ks : List PV) : Prop := (∀ k ∈ ks, (toD k).canLay0 = true ∧ (toD k).depth ≤ 60) ∧ AllAlike (ks.map toD) ∧ Sortable (ks.map toD)
noncomputable def sortBy (ks xs : List PV) : List PV := ((ks.zip xs).mergeSort (dataLe false fun p : PV × PV => toD p.1)).map (·.2)
open Classical in
noncomputable def sortWith (ks xs : List PV) : Option OV := if OkKeys ks ∧ xs.length ≤ 1000000 ∧ ks.length = xs.length then some (true, .lst (sortBy ks xs)) else none
theorem sortWith_some {ks xs : List PV} {r : OV} (h : sortWith ks xs = some r) : OkKeys ks ∧ xs.length ≤ 1000000 ∧ ks.length = xs.length ∧ r = (true, .lst (sortBy ks xs)) := by
  unfold sortWith at h
  split at h
  · rename_i c; cases h; exact ⟨c.1, c.2.1, c.2.2, rfl⟩
  · cases h
def keysBy (F : Fn) : List PV → Option (List PV)
  | [] => some []
  | x :: r => match F [x] with
    | some ((false, k), []) => (keysBy F r).map (k :: ·)
    | _ => none
noncomputable def sortKeyP (F : Fn) : PV → Option OV
  | .lst xs => (keysBy F xs).bind fun ks => sortWith ks xs
  | _ => none
noncomputable def sortedDP : PV → Option OV
  | .lst xs => sortWith xs xs
  | _ => none
theorem keysBy_len {F : Fn} : ∀ {xs ks : List PV}, keysBy F xs = some ks → ks.length = xs.length
  | [], ks, h => by cases h; rfl
  | x :: r, ks, h => by
    unfold keysBy at h
    split at h
    · obtain ⟨k2, e, rfl⟩ := Option.map_eq_some_iff.mp h
      rw [List.length_cons, List.length_cons, keysBy_len e]
    · cases h
theorem keysBy_get {F : Fn} : ∀ {xs ks : List PV} {i : Nat} {x : PV}, keysBy F xs = some ks → xs[i]? = some x → ∃ k, ks[i]? = some k ∧ F [x] = some ((false, k), [])
  | [], _, _, _, _, e => by simp at e
  | y :: r, ks, i, x, h, e => by
    unfold keysBy at h
    split at h
    · rename_i k ek
      obtain ⟨k2, e2, rfl⟩ := Option.map_eq_some_iff.mp h
      cases i with
      | zero => simp at e; subst e; exact ⟨k, rfl, ek⟩
      | succ i =>
        obtain ⟨k', e3, e4⟩ := keysBy_get (i := i) e2 (by simpa using e)
        exact ⟨k', by simpa using e3, e4⟩
    · cases h
section
variable {K : PySem.W.Frag} {H Hf : Hp}
/-- values that stand for plain values -/
def Stand (K : PySem.W.Frag) (Hf : Hp) (v : Value) (x : PV) : Prop := ∃ v', RelV v' v ∧ Rep K Hf v' x
theorem each_stand : ∀ {xs : List PV} {vs : List V} {us : List Value}, Reps K Hf vs xs → Vals vs us → EachIs (Stand K Hf) us xs
  | [], vs, us, r, v => by rw [r.nil_inv] at v; cases v; exact .nil
  | x :: xs, vs, us, r, v => by
    obtain ⟨v1, r1, rfl, h1, h2⟩ := r.cons_inv
    cases v with
    | cons a b => exact .cons ⟨v1, a, h1⟩ (each_stand h2 b)
theorem stand_each : ∀ {xs : List PV} {us : List Value}, EachIs (Stand K Hf) us xs → ∃ vs, Reps K Hf vs xs ∧ Vals vs us
  | _, _, .nil => ⟨[], .nil, .nil⟩
  | _, _, .cons ⟨v, a, h⟩ t => by
    obtain ⟨vs, h1, h2⟩ := stand_each t
    exact ⟨v :: vs, .cons h h1, .cons a h2⟩
theorem each_pair {α β γ : Type} {R : α → γ → Prop} : ∀ {as : List α} {bs : List γ} {cs : List β}, EachIs R as bs → cs.length = bs.length → EachIs (fun a (p : β × γ) => R a p.2) as (cs.zip bs)
  | _, _, [], .nil, _ => .nil
  | _, _, _ :: _, .nil, h => by simp at h
  | _, _, [], .cons _ _, h => by simp at h
  | _, _, c :: cs, .cons r t, h => .cons r (each_pair t (by simpa using h))
theorem each_unpair {α β γ : Type} {R : α → γ → Prop} : ∀ {as : List α} {ps : List (β × γ)}, EachIs (fun a (p : β × γ) => R a p.2) as ps → EachIs R as (ps.map (·.2))
  | _, _, .nil => .nil
  | _, _, .cons r t => .cons r (each_unpair t)
theorem zip_fst {α β : Type} (f : α → PyData) : ∀ {as : List α} {bs : List β}, as.length = bs.length → (as.zip bs).map (fun p => f p.1) = as.map f
  | [], _, _ => rfl
  | a :: as, [], h => by simp at h
  | a :: as, b :: bs, h => by rw [List.zip_cons_cons, List.map_cons, List.map_cons, zip_fst f (by simpa using h)]
end

/-! ### sorted(xs) -/
section
variable {X : Cx}
theorem stand_reads {pins : List (Addr × Obj)} {σ : Sl} {H Hf : Hp} {s : Shared} (I : Inv X pins σ H s) (sb : Bel Hf H) : ∀ {xs : List PV} {us : List Value}, EachIs (Stand X.K Hf) us xs → (∀ k ∈ xs, (toD k).canLay0 = true) → EachIs (fun v d => ∃ as, Reads s.heap v d as) us (xs.map toD)
  | _, _, .nil, _ => .nil
  | _, _, .cons ⟨v, a, h⟩ t, c => .cons (Dp.reads I _ v _ (Rep.dp (h.sub sb) (c _ List.mem_cons_self)) a) (stand_reads I sb t fun k hk => c k (List.mem_cons_of_mem _ hk))
theorem p_sortedD (hu : X.A.units + 64 < cLine) : CallP X (.builtin "sorted") sortedDP := callP fun pins s σ H x' us Q Hf x r I rs sb ox e q => by
  unfold sortedDP at e
  split at e
  · rename_i xs
    obtain ⟨ok, hl, _, rfl⟩ := sortWith_some e
    obtain ⟨a, vs, rfl, ha, ra⟩ := opd_lst ox
    obtain ⟨its, rv, hL, _⟩ := I.list (SqL.of ha)
    rw [Vals.ref1 rs]
    have st := each_stand ra rv
    have el : EachIs (fun (v : Value) (p : PV × PV) => Stand X.K Hf v p.2) its (xs.zip xs) := each_pair st rfl
    have er0 := stand_reads I sb st fun k hk => (ok.1 k hk).1
    have er : EachIs (fun (v : Value) (p : PV × PV) => ∃ as, Reads s.heap v (toD p.1) as) its (xs.zip xs) := by
      have z := each_pair (cs := xs) er0 (by rw [List.length_map])
      have conv : ∀ {us : List Value} {ys : List PV}, EachIs (fun v d => ∃ as, Reads s.heap v d as) us (ys.map toD) → EachIs (fun (v : Value) (p : PV × PV) => ∃ as, Reads s.heap v (toD p.1) as) us (ys.zip ys) := by
        intro us ys h
        induction ys generalizing us with
        | nil => cases h; exact .nil
        | cons y ys ih => cases h with
          | cons r t => exact .cons r (ih t)
      exact conv er0
    have ez : (xs.zip xs).map (fun p : PV × PV => toD p.1) = xs.map toD := zip_fst toD rfl
    refine sorted_data (R := fun (v : Value) (p : PV × PV) => Stand X.K Hf v p.2) (enc := fun p : PV × PV => toD p.1) hL.isList el er (by rw [ez]; exact ok.2.1) (by rw [ez]; exact ok.2.2) (by rw [List.length_zip, Nat.min_self, sizeLine_eq]; omega) (fun p hp => ?_) fun out hlen eo => ?_
    · have := (ok.1 p.1 (List.of_mem_zip hp).1).2
      omega
    · obtain ⟨ep, he'⟩ := PyProof.Rows.sortedAll_at s.heap its out.toArray
      obtain ⟨vs', r', v'⟩ := stand_each (each_unpair eo)
      have hl' : vs'.length ≤ sizeLine := by
        rw [r'.length]
        show (sortBy xs xs).length ≤ _
        unfold sortBy
        rw [List.length_map, (List.mergeSort_perm _ _).length_eq, List.length_zip, Nat.min_self, sizeLine_eq]; omega
      exact ⟨.ref _, upd H (s.heap.objs.size + 1) (.lst vs'), I.laid (t' := s.toks) (fun _ _ => PyProof.Rows.sortedAll_old) (Nat.le_succ _) ⟨hl', out, ep, v', he'⟩, rfl, q _ _ (.lst (I.hok.fresh (Nat.le_succ _)) r')⟩
  · cases e
end

/-! ### sorted(xs, key=f) -/
section
variable {X : Cx} {pins : List (Addr × Obj)} {σ : Sl}
/-- an address made behind the entry: its object may change -/
structure Fresh (X : Cx) (pins : List (Addr × Obj)) (b : Addr) : Prop where
  fa : b ≠ X.env.locals
  fb : b ∉ X.fs
  fc : b ∈ X.ex ∨ X.s_0.heap.objs.size ≤ b
  fd : ∀ x c, X.env.cells.lookup x = some c → c ≠ b
  fe : ∀ p ∈ X.pn ++ pins, p.1 ≠ b
theorem fresh_of {H : Hp} {s : Shared} {b : Addr} (I : Inv X pins σ H s) (hb : s.heap.objs.size ≤ b) : Fresh X pins b := by
  obtain ⟨_, h1, h2, h3, h4, h5⟩ := I.fpOk (H' := H) hb (I.hok.fresh hb)
  exact ⟨h1, h2, h3, h4, h5⟩
theorem turn1 {H : Hp} {s : Shared} {b : Addr} {h' : Heap} {t' : Nat} (I : Inv X pins σ H s) (f : Fresh X pins b) (n : H b = none) (k : ∀ c o, c ≠ b → s.heap.get? c = some o → h'.get? c = some o) : Inv X pins σ H { s with heap := h', toks := t' } :=
  I.turned k n f.fa f.fc f.fd f.fe
/-- a fresh object is taken into the abstract heap -/
theorem adopt {H : Hp} {s : Shared} {a : Addr} {o : HO} (I : Inv X pins σ H s) (f : Fresh X pins a) (n : H a = none) (new : ObjOk X.prog X.w (upd H a o) s.heap a o) : Inv X pins σ (upd H a o) s := by
  refine I.call' (ch := [a]) rfl ⟨fun _ _ e _ _ _ => e, fun _ o e _ _ _ => ⟨o.slots, e⟩, fun b _ _ e hb => by rw [upd_ne (fun z => hb (by simp [z]))]; exact e, fun _ o e _ => ⟨o, e⟩, fun b xs e => by rw [upd_ne (ne_of_none e n)]; exact e,
    fun b u v e => by rw [upd_ne (ne_of_none e n)]; exact e, fun b ps e => ⟨#[], by rw [upd_ne (ne_of_none e n), e]; simp⟩⟩ (fun b u e => ?_) I.bare fun b hb => ?_
  · by_cases z : b = a
    · subst z; rw [upd_same] at e; cases e; exact new
    · rw [upd_ne z] at e
      exact (I.hok b u e).stay (fun c v _ q => q) (fun c q => by rw [upd_ne (ne_of_none q n)]; exact q) fun c xs q => by rw [upd_ne (ne_of_none q n)]; exact q
  · obtain rfl : b = a := by simpa using hb
    exact ⟨f.fc, f.fa, f.fd, f.fe⟩
/-- the callee, deeper in -/
theorem key_call {f : Addr} {fd : FuncData} {ps : List Str} {k j : Nat} {F : Fn} {A : Around} {H Hf : Hp} {s : Shared} {v : Value} {v' : V} {x y : PV} {Q : Value → Shared → Prop} {E : Value → Shared → Prop}
    (G : FnOk X.prog X.w X.K X.mg X.base CX0 k f fd ps (spOf X.K 1 [] F)) (hb : Binds X.K fd ps []) (hA : A.frames = X.A.frames) (hr : Room k A) (I : Inv X pins σ H s) (sb : Bel Hf H) (rv : RelV v' v) (rp : Rep X.K Hf v' x) (e : F [x] = some ((false, y), []))
    (h : ∀ u u' Hf' H' s', Inv X pins σ H' s' → RelV u' u → Rep X.K Hf' u' y → Bel Hf Hf' → Bel Hf' H' → (∀ b o, H b = some o → H' b = some o) → (∀ b, Hf' b ≠ none → Hf b ≠ none ∨ H b = none) → Q u s') :
    wpAny (model X.prog X.w) A (call (.ref f) [v]) Q E s := by
  have sp : spOf X.K 1 [] F [v'] H (fun u' H' => ∃ Hf', Rep X.K Hf' u' y ∧ Bel Hf Hf' ∧ Bel Hf' H' ∧ (∀ b o, H b = some o → H' b = some o) ∧ ∀ b, Hf' b ≠ none → Hf b ≠ none ∨ H b = none) (fun _ _ _ => False) := by
    refine ⟨rfl, Hf, [x], rfl, ⟨sb, fun i o w hw => ?_, fun i j w w2 b hw => ?_⟩, _, _, e, fun u' Hf' H' dn rvv nw => ⟨Hf', rvv, dn.sub, dn.sub', fun b o hb => dn.keep b o hb (fun i hi => by simp at hi), dn.new⟩⟩
    · cases i with
      | zero => cases hw; exact ⟨v', rfl, fun _ => rp, fun z => nomatch z⟩
      | succ i => simp [argE] at hw
    · cases i with
      | zero => cases hw
      | succ i => simp [argE] at hw
  have hl : ([v] : List Value).length = ps.length := by rw [← G.len [v'] H _ _ sp]; rfl
  have e0 : Env0 X.prog X.w X.K X.mg X.base A X.stack s H := ⟨hA.trans I.ok.frames, I.ok.mod, I.bs, Nat.le_trans I.ok.bsz I.sz, I.stack, I.stkFree, I.hok, I.bare⟩
  refine wpAny_call (codeAny_mono (G.run A X.stack s H ⟨[v], []⟩ [v] [v'] _ (fun _ _ _ => False) hr e0 (by have := hb s [v] I.kIn (by rw [List.append_nil]; exact hl); rwa [List.append_nil] at this) (.cons rv .nil) sp) fun r s' hq => ?_)
  cases r with
  | error e => exact hq.elim
  | ok fl =>
    cases fl with
    | ret u =>
      obtain ⟨u', H', os, bare, un, hok, r, Hf', q1, q2, q3, q4, q5⟩ := hq
      exact h u u' Hf' H' s' (I.call' (ch := []) os un hok bare fun b z => absurd z (by simp)) r q1 q2 q3 q4 q5
    | next => exact hq.elim
    | brk => exact hq.elim
    | cont => exact hq.elim

theorem each_takeS {α β : Type} {R : α → β → Prop} {l : List β} {j : Nat} {k : β} (h : l[j]? = some k) {as : List α} {v : α} (r : R v k) (e : EachIs R as (l.take j)) : EachIs R (as ++ [v]) (l.take (j + 1)) := by
  have : l.take (j + 1) = l.take j ++ [k] := by rw [List.take_add_one, h]; simp
  rw [this]
  exact each_snoc r e
theorem key_rest {f : Addr} {fd : FuncData} {ps : List Str} {k j : Nat} {F : Fn} {A : Around} {H Hf : Hp} {s : Shared} {a kS : Addr} {e1 : Nat} {vs : List Value} {xs ks : List PV} {P : PySem.Fin → Shared → Prop} {E : Value → Shared → Prop}
    (G : FnOk X.prog X.w X.K X.mg X.base CX0 k f fd ps (spOf X.K 1 [] F)) (hb : Binds X.K fd ps []) (hA : A.frames = X.A.frames) (hr : Room k A) (I : Inv X pins σ H s) (sb : Bel Hf H) (fa : Fresh X pins a) (fk : Fresh X pins kS) (na : H a = none) (nk : H kS = none) (hka : kS ≠ a)
    (ra : s.heap.get? a = some (seqObj "list" #[] e1)) (rk : s.heap.get? kS = some (seqObj "list" #[] 0)) (st : EachIs (Stand X.K Hf) vs xs) (ek : keysBy F xs = some ks) (ok : OkKeys ks) (hz : xs.length ≤ 1000000)
    (h : ∀ out c s' H' Hf', Inv X pins σ H' s' → s'.heap.get? a = some (seqObj "list" (List.toArray out) c) → H' a = none → EachIs (Stand X.K Hf') out (sortBy ks xs) → Bel Hf Hf' → Bel Hf' H' → (∀ b o, H b = some o → H' b = some o) → (∀ b, Hf' b ≠ none → Hf b ≠ none ∨ H b = none) → P (.done (.ret .none)) s') :
    wpAny (model X.prog X.w) A (ksk_rest a (.ref f) false vs.toArray e1 (.ref kS)) P E s := by
  have lx : vs.length = xs.length := st.length
  have lk : ks.length = xs.length := keysBy_len ek
  have hL : vs.length ≤ sizeLine := by rw [sizeLine_eq]; omega
  unfold ksk_rest
  refine wpAny_bind (wpAny_rule ?_)
  rw [List.forIn_toArray]
  refine wpAny_bind (ksk_fold (fun i s' => ∃ H' Hf' kA e, Inv X pins σ H' s' ∧ s'.heap.get? kS = some (seqObj "list" kA e) ∧ s'.heap.get? a = some (seqObj "list" #[] e1) ∧ H' kS = none ∧ H' a = none ∧ Bel Hf Hf' ∧ Bel Hf' H' ∧ (∀ b o, H b = some o → H' b = some o) ∧ (∀ b, Hf' b ≠ none → Hf b ≠ none ∨ H b = none) ∧
      EachIs (Stand X.K Hf') kA.toList (ks.take i)) vs 0 s ⟨H, Hf, #[], 0, I, rk, ra, nk, na, .rfl', sb, fun _ _ e => e, fun _ e => .inl e, by rw [List.take_zero]; exact .nil⟩ ?step ?done)
  case step =>
    rintro i v s1 hv ⟨H1, Hf1, kA, e, I1, rk1, ra1, nk1, na1, s1f, s1h, kp1, nw1, ea1⟩
    simp only [Nat.zero_add] at ea1 ⊢
    have hi : i < vs.length := (List.getElem?_eq_some_iff.mp hv).1
    obtain ⟨x, hx⟩ : ∃ x, xs[i]? = some x := ⟨_, List.getElem?_eq_getElem (by omega)⟩
    obtain ⟨y, hy, eF⟩ := keysBy_get ek hx
    obtain ⟨v', rv, rp⟩ := st.zip (v, x) (List.mem_of_getElem? (i := i) (by rw [List.getElem?_zip_eq_some]; exact ⟨hv, hx⟩))
    have sz : kA.size ≤ vs.length := by
      have := ea1.length
      rw [Array.length_toList, List.length_take] at this
      omega
    have I2 : Inv X ((kS, seqObj "list" kA e) :: (a, seqObj "list" #[] e1) :: pins) σ H1 s1 := I1.pins_of fun p hp => by
      rcases List.mem_cons.mp hp with rfl | hp
      · exact ⟨rk1, nk1, fk.fa, fk.fb, fun _ z => nomatch z⟩
      · rcases List.mem_cons.mp hp with rfl | hp
        · exact ⟨ra1, na1, fa.fa, fa.fb, fun _ z => nomatch z⟩
        · exact I1.pin p (List.mem_append_right _ hp)
    refine wpAny_bind (wpAny_attempt (key_call (pins := (kS, seqObj "list" kA e) :: (a, seqObj "list" #[] e1) :: pins) (j := j) G hb hA hr I2 s1h rv (rp.sub s1f) eF fun u u' Hf2 H2 s2 I3 ru rpu b1 b2 kp2 nw2 => ?_))
    have pk := I3.pin (kS, seqObj "list" kA e) (List.mem_append_right _ (by simp))
    have pa := I3.pin (a, seqObj "list" #[] e1) (List.mem_append_right _ (by simp))
    have I4 : Inv X pins σ H2 s2 := I3.pins_of fun p hp => I3.pin p (List.mem_append_right _ (by simp [hp]))
    have sm := Heap.SameBut.update s2.heap kS (Obj.mapSeq (·.push u))
    obtain ⟨c2, hc2⟩ : ∃ c2, (s2.heap.update kS (Obj.mapSeq (·.push u))).get? kS = some (seqObj "list" (kA.push u) c2) := ⟨_, get?_update_seq pk.1 (·.push u)⟩
    refine wpAny_bind (listUpdate_at pk.1 rfl ?_ (Nat.le_trans sz hL) (Nat.le_trans (Nat.le_of_eq (Array.size_push ..)) (Nat.succ_le_succ (Nat.le_trans sz hL))))
    have I5 : Inv X pins σ H2 { s2 with heap := s2.heap.update kS (Obj.mapSeq (·.push u)) } := turn1 (t' := s2.toks) I4 fk pk.2.1 fun c o hc eo => (sm.2 c hc).trans eo
    refine wpAny_pure ⟨rfl, H2, Hf2, kA.push u, c2, I5, hc2, (sm.2 a hka.symm).trans pa.1, pk.2.1, pa.2.1, s1f.trans b1, b2, fun b o q => kp2 b o (kp1 b o q), fun b q => ?_, ?_⟩
    · rcases nw2 b q with z | z
      · exact nw1 b z
      · exact .inr (by cases q2 : H b with | none => rfl | some o => rw [kp1 b o q2] at z; cases z)
    · rw [show (kA.push u).toList = kA.toList ++ [u] by simp]
      exact each_takeS hy ⟨u', ru, rpu⟩ (ea1.mono fun _ _ ⟨w, q1, q2⟩ => ⟨w, q1, q2.sub b1⟩)
  case done =>
    rintro s1 ⟨H1, Hf1, kA, e, I1, rk1, ra1, nk1, na1, s1f, s1h, kp1, nw1, ea1⟩
    have e3 : ks.take (0 + vs.length) = ks := List.take_of_length_le (by omega)
    rw [e3] at ea1
    have er := stand_reads I1 s1h ea1 fun k hk => (ok.1 k hk).1
    have hsz : kA.size = vs.length := by
      have := ea1.length
      rw [Array.length_toList] at this
      omega
    obtain ⟨G1, g1, g2⟩ := L2.restrict s1.heap fun b => decide (b ≠ kS)
    have kp : KeepsBut a G1 s1.heap := fun b o hb eo => by
      by_cases z : b = kS
      · rw [g2 b (by simp [z])] at eo; cases eo
      · rw [g1 b (by simp [z])] at eo; exact eo
    have hu : ∀ d, d ∈ ks.map toD → A.units + d.depth < cLine := fun d hd => by
      obtain ⟨k, hk, rfl⟩ := List.mem_map.mp hd
      have := (ok.1 k hk).2
      have := hr.units
      omega
    refine wpAny_bind (listItems_at rk1 rfl ?_)
    refine keyH_end (κ := dataKind s1.heap (ks.map toD)) (h₁ := G1) kp (g2 kS (by simp)) rk1 ra1 hka (SortsAt.data er ok.2.1 ok.2.2 hu) hsz hL fun h3 tk3 c k3 n3 => ?_
    have ko : KeyedOut false (ks.map toD) vs (sortVals (dataKind s1.heap (ks.map toD)) false kA.toList vs) := ⟨s1.heap, kA.toList, ok.2.1, rfl, er⟩
    have ez : (ks.zip xs).map (fun p : PV × PV => toD p.1) = ks.map toD := zip_fst toD lk
    have ko : KeyedOut false ((ks.zip xs).map fun p : PV × PV => toD p.1) vs (sortVals (dataKind s1.heap (ks.map toD)) false kA.toList vs) := by rw [ez]; exact ko
    have eo := keyedOut_each (R := fun (v : Value) (p : PV × PV) => Stand X.K Hf v p.2) (fun p : PV × PV => toD p.1) ko (each_pair st lk)
    have md : ∀ b o, b ≠ kS → s1.heap.get? b = some o → (h3.update a fun _ => seqObj "list" #[] e1).get? b = some o := fun b o hb eo => by
      by_cases z : b = a
      · subst z
        rw [ra1] at eo
        cases eo
        exact Heap.get?_update_self _ n3 rfl
      · rw [Heap.get?_update_other _ _ (Ne.symm z)]
        refine k3 b o z ?_
        rw [g1 b (by simp [hb])]; exact eo
    have I2 : Inv X pins σ H1 { s1 with heap := h3.update a fun _ => seqObj "list" #[] e1, toks := tk3 } := turn1 (t' := tk3) I1 fk nk1 md
    have I3 : Inv X pins σ H1 { s1 with heap := h3, toks := tk3 } := turn1 (s := { s1 with heap := h3.update a fun _ => seqObj "list" #[] e1, toks := tk3 }) (t' := tk3) I2 fa na1 fun b o hb eo => by
      rw [← eo]
      exact (Heap.get?_update_other _ _ (Ne.symm hb)).symm
    exact h _ c _ H1 Hf1 I3 n3 na1 (EachIs.mono (R := Stand X.K Hf) (fun _ _ ⟨w, q1, q2⟩ => ⟨w, q1, q2.sub s1f⟩) (each_unpair eo)) s1f s1h kp1 nw1
end

section
variable {X : Cx}
def rSortKey (K : PySem.W.Frag) (f : Addr) (F : Fn) : List V → List V → Hp → VK → Prop := fun xs zs H Q => zs = [V.ref f] ∧ ∃ x', xs = [x'] ∧ ∃ Hf x r, Bel Hf H ∧ Opd K Hf H x' x ∧ sortKeyP F x = some r ∧
  ∀ y, r = (true, .lst y) → ∀ p vs' Hf' H', H p = none → Reps K Hf' vs' y → Bel Hf Hf' → Bel Hf' H' → (∀ b o, H b = some o → H' b = some o) → (∀ b, Hf' b ≠ none → Hf b ≠ none ∨ H b = none) → H' p = none → Q (.ref p) (upd H' p (.lst vs'))
theorem p_sortKey {f : Addr} {fd : FuncData} {ps : List Str} {k j : Nat} {F : Fn} (G : FnOk X.prog X.w X.K X.mg X.base CX0 k f fd ps (spOf X.K 1 [] F)) (hb : Binds X.K fd ps []) (hr : Room j X.A) (hk : k + 2 ≤ j) :
    CallRK X (.builtin "sorted") ["key"] (rSortKey X.K f F) := by
  intro pins s σ H xs zs us ws Q I rs rz ⟨ez, x', ex, Hf, x, r, sb, ox, e, q⟩
  subst ez; subst ex
  have ew : ws = [Value.ref f] := by
    cases rz with
    | cons a b => cases b; obtain rfl : _ = Value.ref f := a; rfl
  subst ew
  unfold sortKeyP at e
  split at e
  · rename_i xs
    obtain ⟨ks, ek, e⟩ := Option.bind_eq_some_iff.mp e
    obtain ⟨ok, hl, _, rfl⟩ := sortWith_some e
    obtain ⟨a, vs, rfl, ha, ra⟩ := opd_lst ox
    obtain ⟨its, rv, hL, _⟩ := I.list (SqL.of ha)
    rw [Vals.ref1 rs]
    have st := each_stand ra rv
    have lz : its.length ≤ sizeLine := by rw [st.length, sizeLine_eq]; omega
    show wpAny (model X.prog X.w) X.A (call (.builtin "sorted") [.ref a] [(("key" : Str), .ref f)]) (EP X pins σ Q) X.xe s
    refine sorted_of_sort hL.isList lz (ksk_s1 _ _) (fun _ => ksk_l1 _ _) fun E' => ?_
    have et : Builtin.«list.sort» ⟨[.ref (s.heap.objs.size + 1)], [(("key" : Str), .ref f)]⟩ = ksk_tree (s.heap.objs.size + 1) (.ref f) false := ksk_t1 f (s.heap.objs.size + 1)
    rw [et]
    generalize hA : s.heap.objs.size + 1 = A at *
    have fA : Fresh X pins A := fresh_of I (by omega)
    have nA : H A = none := I.hok.fresh (by omega)
    have hcp : (copyHeap s.heap its).get? A = some (seqObj "list" its.toArray 0) := by rw [← hA]; exact copyHeap_at s.heap its
    have I1 : Inv X pins σ H { s with heap := copyHeap s.heap its } := I.kept (t' := s.toks) fun _ _ => copyHeap_old
    generalize copyHeap s.heap its = h1 at *
    have sA : A < h1.objs.size := Heap.lt_size hcp
    obtain ⟨e1, ho1⟩ : ∃ e1, (h1.update A (Obj.mapSeq fun _ => (#[] : Array Value))).get? A = some (seqObj "list" #[] e1) := ⟨_, get?_update_seq hcp fun _ => #[]⟩
    have I2 : Inv X pins σ H { s with heap := h1.update A (Obj.mapSeq fun _ => (#[] : Array Value)) } := turn1 (s := { s with heap := h1 }) (t' := s.toks) I1 fA nA fun c o hc eo => (Heap.get?_update_other _ _ (Ne.symm hc)).trans eo
    unfold ksk_tree
    refine wpAny_bind (listItems_at hcp rfl ?_)
    refine wpAny_bind (listUpdate_at hcp rfl ?_ (by rw [List.size_toArray]; exact lz) (Nat.zero_le _))
    refine wpAny_bind (seqEpoch_at ho1 rfl ?_)
    refine wpAny_bind (wpAny_newTuple ?_ (by show its.length ≤ _; exact lz))
    refine wpAny_bind (wpAny_newList ?_ (Nat.zero_le _))
    refine wpAny_holding ?_
    generalize hg2 : h1.update A (Obj.mapSeq fun _ => (#[] : Array Value)) = h2 at *
    have sz2 : h2.objs.size = h1.objs.size := by rw [← hg2, Heap.size_update]
    have I3 : Inv X pins σ H { s with heap := h2.push (seqObj "tuple" its.toArray 0) } := I2.kept (t' := s.toks) fun _ _ eo => Heap.get?_push_of_some _ eo
    have fK : Fresh X pins (h2.push (seqObj "tuple" its.toArray 0)).objs.size := fresh_of I3 (Nat.le_refl _)
    have nK : H (h2.push (seqObj "tuple" its.toArray 0)).objs.size = none := I3.hok.fresh (Nat.le_refl _)
    have I4 : Inv X pins σ H { s with heap := (h2.push (seqObj "tuple" its.toArray 0)).push (seqObj "list" #[] 0) } := I3.kept (t' := s.toks) fun _ _ eo => Heap.get?_push_of_some _ eo
    have ne : (h2.push (seqObj "tuple" its.toArray 0)).objs.size ≠ A := by rw [size_push']; omega
    have hrk : Room k X.A.in1.in1 := ((hr.mono hk : Room (k + 1 + 1) X.A).in1).in1
    refine key_rest (X := X) (pins := pins) (σ := σ) (H := H) (Hf := Hf) (s := { s with heap := (h2.push (seqObj "tuple" its.toArray 0)).push (seqObj "list" #[] 0) }) (xs := xs) (ks := ks) (j := j) G hb rfl hrk I4 sb fA fK nA nK ne (Heap.get?_push_of_some _ (Heap.get?_push_of_some _ ho1)) (Heap.get?_push_size _ rfl) st ek ok hl fun out c s' H' Hf' I' ho na eo b1 b2 kp nw => ⟨rfl, ?_⟩
    obtain ⟨vs', r', v'⟩ := stand_each eo
    have hl' : vs'.length ≤ sizeLine := by
      rw [r'.length]
      unfold sortBy
      rw [List.length_map, (List.mergeSort_perm _ _).length_eq, List.length_zip, keysBy_len ek, Nat.min_self, sizeLine_eq]; omega
    have e2 : (List.toArray out) = out.toArray := rfl
    exact ⟨.ref A, upd H' A (.lst vs'), adopt I' fA na (show ObjOk X.prog X.w (upd H' A (.lst vs')) s'.heap A (.lst vs') from ⟨hl', out, c, v', ho⟩), rfl, q _ rfl A vs' Hf' H' nA r' b1 b2 kp nw na⟩
  · cases e
theorem we_sortKey {a : Expr} {fa : M PV} {x p1 : Str} {F : Fn} {k j : Nat} {p px kp pos : Pos} (C : Cal X.prog X.w X.K X.mg X.base k x [p1] [] F) (hr : Room j X.A) (hk : k + 2 ≤ j) (hg : Gl X "sorted") (hm : X.mg "sorted" = none) (hgx : Gl X x) (ha : WO X a fa)
    (hdb : (x == ("__debug__" : Str)) = false := by decide) (hs : starEach [a] X.env = (false, eval a X.env) :: starEach [] X.env := by rfl) (he : backTo pos (starEach [a] X.env) = (false, eval a X.env) :: backTo pos (starEach [] X.env) := by rfl) (hpl : (backTo pos (starEach [a] X.env)).any (·.1) = false := by rfl)
    (hall : (backToKw pos (keywordEach [⟨some "key", .Name x px, kp⟩] X.env)).all (·.1.isSome) = true := by rfl) (hnone : (backToKw pos (keywordEach [⟨some "key", .Name x px, kp⟩] X.env)).any (·.1.isNone) = false := by rfl) (hks : (backToKw pos (keywordEach [⟨some "key", .Name x px, kp⟩] X.env)).filterMap (·.1) = [("key" : Str)] := by rfl) :
    WE X (.Call (.Name "sorted" p) [a] [⟨some "key", .Name x px, kp⟩] pos) (un1 fa (sortKeyP F)) := by
  obtain ⟨f, fd, hmx, G, kp', hb, _⟩ := C.ex
  refine ⟨peWeak (pe_callBK (p_sortKey G hb hr hk) hg hm rfl (pa_cons ha.pe pa_nil hs) (pk_cons (pe_glob (v := .ref f) hgx hmx rfl hdb) pk_nil) (by decide) (by decide) he hpl hall hnone hks) fun σ H Q ⟨ρ, Hf, r, w⟩ => ?_⟩
  unfold un1 at w
  rw [wp_bind] at w
  refine ⟨ρ, Hf, r, wp_mono w fun x ρ1 w v1 Hf1 H1 r1 s1 p1 => ?_⟩
  rw [wp_lift] at w
  obtain ⟨y, e, q⟩ := w
  refine ⟨rfl, v1, rfl, Hf1, x, y, r1.sub, p1, e, fun ys ey p vs' Hf' H' np rv b1 b2 kp nw na => ?_⟩
  subst ey
  have ow : ∀ b, Own ρ1 σ b → Hf' b = none := fun b o => by
    obtain ⟨h1, ob, h2, _⟩ := o.slot r1
    cases z : Hf' b with
    | none => rfl
    | some u =>
      rcases nw b (by rw [z]; exact fun q => nomatch q) with h | h
      · exact absurd h1 h
      · rw [h2] at h; cases h
  have hf : Hf' p = none := by
    cases z : Hf' p with
    | none => rfl
    | some u => exact absurd na (b2.some_ (by rw [z]; exact fun q => nomatch q))
  have no : ¬ Own ρ1 σ p := fun o => by obtain ⟨_, ob, h2, _⟩ := o.slot r1; rw [np] at h2; cases h2
  have b3 : Bel Hf' (upd H' p (.lst vs')) := b2.trans (.upd na)
  have r2 : R X.K ρ1 Hf' σ (upd H' p (.lst vs')) := r1.grow b1 b3 (fun b o _ e => by rw [upd_ne (ne_of_none (kp b o e) na)]; exact kp b o e) ow
  have s2 : Step ρ1 Hf1 σ H1 ρ1 Hf' σ (upd H' p (.lst vs')) := ⟨b1, fun b o e _ => by rw [upd_ne (ne_of_none (kp b o e) na)]; exact kp b o e, fun b e => by
    rcases nw b e with h | h
    · exact .inl h
    · exact .inr (.inr h), fun b o => .inl o, fun b e => by
    by_cases z : b = p
    · subst z; rw [upd_same]; exact fun q => nomatch q
    · rw [upd_ne z]
      cases q : H1 b with
      | none => exact absurd q e
      | some o => rw [kp b o q]; exact fun q => nomatch q⟩
  exact q (.ref p) Hf' _ r2 (s1.trans s2) ⟨p, _, rfl, hf, upd_same, ⟨vs', rfl, rv⟩, no⟩ fun _ p' e' => by
    cases e'
    cases q : H p with
    | none => rfl
    | some o => exact absurd np (s1.there p (by rw [q]; exact fun z => nomatch z))
end
section
variable {X : Cx}
noncomputable def sorted2P (x : PV) : Option OV := match sortedP x with
  | some r => some r
  | none => sortedDP x
theorem p_sorted2 (hu : X.A.units + 64 < cLine) : CallP X (.builtin "sorted") sorted2P := callP fun pins s σ H x' us Q Hf x r I rs sb ox e q => by
  unfold sorted2P at e
  split at e
  · rename_i r' e'
    cases e
    exact p_sorted pins s σ H _ us Q I rs ⟨x', rfl, Hf, x, _, sb, ox, e', q⟩
  · exact p_sortedD hu pins s σ H _ us Q I rs ⟨x', rfl, Hf, x, _, sb, ox, e, q⟩
end
end MC
set_option Elab.async false
set_option linter.all false
set_option maxRecDepth 100000
set_option maxHeartbeats 4000000
/-! list(reversed(xs)), xs a list. -/
namespace MC
open PySem PySem.Spec PyProof.Rows L2
section
variable {prog : Program} {w : World} {A : Around} {E : Value → Shared → Prop} {s : Shared}
theorem ext_rv {R : Result → Shared → Prop} {S it l : Addr} {items : Array Value} {res : Value} {c₀ : Nat} (hh : A.handled = none) (hit : s.heap.IsRevIter it l ((items.size : Int) - 1)) (hl : s.heap.IsList l items) (hne : l ≠ it) (hn : items.size ≤ sizeLine)
    (hS : s.heap.get? S = some { cls := .type "list", data := .seq #[] c₀ }) (ni : S ≠ it) (nl : S ≠ l)
    (hR : ∀ h' tk acc c', (∀ b o, b ≠ S → b ≠ it → s.heap.get? b = some o → h'.get? b = some o) → h'.get? S = some { cls := .type "list", dict := none, data := .seq acc c', slots := #[] } →
      ItemsOf (fun i v => items[items.size - 1 - i]? = some v) acc items.size → R (.ok (.ret res)) { s with heap := h', toks := tk }) :
    wpAny (model prog w) A.in1 (Builtin.List.listExtendWith (.ref S) (.ref it) res)
      (fun fin s' => match fin with | .done f => R (.ok f) s' | .again c' => c'.quiet = true ∧ codeAny (model prog w) A c' R s') (fun e s' => R (.error e) s') s := by
  have W := (Walks.listRev (prog := prog) (w := w) (A := A.in1) hh it l hne items).toS
  have nf : S ∉ [it, l] := by simp only [List.mem_cons, List.not_mem_nil, or_false, not_or]; exact ⟨ni, nl⟩
  have hT : s.TypeIs (.ref it) "list_reverseiterator" := Heap.IsRevIter.typeIs hit
  have z1 : Builtin.List.listSameRef (.ref S) (.ref it) = false := by simp [Builtin.List.listSameRef, ni]
  unfold Builtin.List.listExtendWith
  refine wpAny_bind (wpAny_typeOf hT ?_)
  rw [if_neg (by rw [z1]; decide)]
  refine wpAny_bind (wpAny_pyIter_revIter hit ?_)
  refine wpAny_bind (wpAny_holding ?_)
  unfold Builtin.List.listLengthHint
  refine wpAny_bind (wpAny_specialOf hT RT.nolen_lri ?_)
  show wpAny _ A.in1 (specialOf (Value.ref it) (Str.ofString "__length_hint__") >>= _) _ _ _
  refine wpAny_bind (wpAny_specialOf hT RT.hint_lri ?_)
  generalize hid : ("list_reverseiterator.__length_hint__" : String) = id0
  wp_delta
  rw [show splitId id0 = some ("list_reverseiterator", "__length_hint__") from by subst hid; decide +kernel]
  subst hid
  refine wpAny_bind (wpAny_isInstance (b := true) hT (by rw [isSubtype_type]; kernel_rfl) ?_)
  refine wpAny_pure ?_
  rw [if_neg (by decide)]
  have e0 : ((items.size : Nat) : Int) - 1 - ((0 : Nat) : Int) = (items.size : Int) - 1 := by omega
  refine wpAny_pure ⟨plainId_quiet F.plain_extend_loop _, codeAny_extend_loopS W hn _ nf res items.size 0 _ _ _ rfl (Nat.zero_le _) ⟨Nat.zero_le _, by rw [e0]; exact hit, hl⟩ hS (ItemsOf.nil _) fun s' acc c' mv l1 hacc => ?_⟩
  rw [Moved.eq_with mv]
  refine hR s'.heap s'.toks acc c' (fun b o h1 h2 e => mv.heap b o (fun hm => ?_) e) l1 hacc
  rcases List.mem_cons.mp hm with z | hm
  · exact h1 z
  · exact h2 (List.mem_singleton.mp hm)
theorem call_list_rv {Q : Value → Shared → Prop} {it l : Addr} {items : Array Value} (hh : A.handled = none) (hit : s.heap.IsRevIter it l ((items.size : Int) - 1)) (hl : s.heap.IsList l items) (hne : l ≠ it) (hn : items.size ≤ sizeLine)
    (hQ : ∀ h' tk acc c', (∀ b o, b ≠ it → s.heap.get? b = some o → h'.get? b = some o) →
      h'.get? s.heap.objs.size = some { cls := .type "list", dict := none, data := .seq acc c', slots := #[] } → ItemsOf (fun i v => items[items.size - 1 - i]? = some v) acc items.size → Q (.ref s.heap.objs.size) { s with heap := h', toks := tk }) :
    wpAny (model prog w) A (call (.type "list") [.ref it]) Q E s := by
  obtain ⟨oi, hoi, _⟩ := id hit
  obtain ⟨ol, hol, _⟩ := id hl
  have ni : s.heap.objs.size ≠ it := Nat.ne_of_gt (Heap.lt_size hoi)
  have nl : s.heap.objs.size ≠ l := Nat.ne_of_gt (Heap.lt_size hol)
  refine callType_codes (Q₁ := fun obj s₁ => obj = .ref s.heap.objs.size ∧ s₁ = { s with heap := s.heap.push { cls := .type "list", data := .seq #[] } }) F.called_list (F.typeCall_list_1 _) F.entry_list_init (code_list_new _ ⟨rfl, rfl⟩) fun obj s₁ h₁ => ?_
  obtain ⟨rfl, rfl⟩ := h₁
  generalize hsz : s.heap.objs.size = S at *
  have l0 : (s.heap.push { cls := .type "list", data := .seq #[] }).get? S = some { cls := .type "list", data := .seq #[] } := by rw [← hsz]; exact Heap.get?_push_size _ rfl
  refine ⟨⟨_, l0, rfl⟩, F.args_list_init_2 _ _, ?_⟩
  show wpAny _ _ (do let old ← Builtin.List.listItems (.ref S); Builtin.List.listUpdate (.ref S) (fun _ => #[]); letGo old.toList.reverse; Builtin.List.listExtendWith (.ref S) (.ref it) .none) _ _ _
  refine wpAny_bind ?_
  unfold Builtin.List.listItems
  refine wpAny_bind (wpAny_seqItems l0 rfl (wpAny_pure ?_))
  show wpAny _ _ (updateSeq S (fun _ => #[]) >>= fun _ => letGo (#[] : Array Value).toList.reverse >>= fun _ => Builtin.List.listExtendWith (.ref S) (.ref it) .none) _ _ _
  refine wpAny_bind (wpAny_updateSeq l0 rfl ?_)
  have l1 := Heap.get?_update_self (Obj.mapSeq (fun _ => (#[] : Array Value))) l0 rfl
  refine wpAny_bind (wpAny_letGo ?_)
  have oth : ∀ x ob, x ≠ S → s.heap.get? x = some ob → ((s.heap.push { cls := .type "list", data := .seq #[] }).update S (Obj.mapSeq (fun _ => (#[] : Array Value)))).get? x = some ob := fun x ob hx e => (Heap.get?_update_other _ _ (Ne.symm hx)).trans (Heap.get?_push_of_some _ e)
  refine ext_rv (A := A.in1) (s := { s with heap := (s.heap.push { cls := .type "list", data := .seq #[] }).update S (Obj.mapSeq (fun _ => (#[] : Array Value))) }) hh (hit.at fun o e => oth it o (Ne.symm ni) e) (hl.at fun o e => oth l o (Ne.symm nl) e) hne hn l1 ni nl fun h' tk acc c' hk hS' hacc => ?_
  exact ⟨rfl, hQ h' tk acc c' (fun x ob hx e => hk x ob (by rw [← hsz]; exact Nat.ne_of_lt (Heap.lt_size e)) hx (oth x ob (by rw [← hsz]; exact Nat.ne_of_lt (Heap.lt_size e)) e)) hS' hacc⟩
end
def listRevP : PV → Option OV
  | .lst xs => some (true, .lst xs.reverse)
  | _ => none
section
variable {X : Cx} {e : Expr} {fa : M PV} {p p2 pos pos2 : Pos}
def tLstRev (te : TE) (k : V → Hp → VK → Prop) : TE := fun σ H Q => te σ H fun x H1 => k x H1 Q
theorem we_listRev (hc : X.calm = true) (hg : Gl X "list") (hm : X.mg "list" = none) (hg2 : Gl X "reversed") (hm2 : X.mg "reversed" = none) (ha : WO X e fa)
    (hs : starEach [e] X.env = (false, eval e X.env) :: starEach [] X.env := by rfl)
    (hs2 : starEach [.Call (.Name "reversed" p2) [e] [] pos2] X.env = (false, eval (.Call (.Name "reversed" p2) [e] [] pos2) X.env) :: starEach [] X.env := by rfl) :
    WE X (.Call (.Name "list" p) [.Call (.Name "reversed" p2) [e] [] pos2] [] pos) (un1 fa listRevP) := by
  refine ⟨⟨fun pins s σ H Q I q => ?_⟩⟩
  obtain ⟨ρ, Hf, r, w⟩ := read1 q
  refine Call_ (ld_blt I hg hm boot_list (PyProof.Rows.callWith_type1 (args_cons (Call_ (ld_blt I hg2 hm2 PyProof.Rows.boot_reversed (PyProof.Rows.callWith_type1 (args_cons (thn (ha.pe.run pins s σ H (fun x' H1 => r1P X.K listRevP x' H1 Q) I ⟨ρ, Hf, r, wp_mono w fun x ρ1 k v1 Hf1 H1 r1 s1 p1 => k v1 Hf1 H1 r1 s1 p1⟩) fun u s1 ⟨v, H1, I1, r1, q1⟩ => args_nil ?_) hs) hs rfl))) hs2) hs2 rfl))
  obtain ⟨Hf1, x, z, sb, ox, ez, q1⟩ := q1
  unfold listRevP at ez
  split at ez
  · cases ez
    obtain ⟨a, vs, rfl, ha, ra⟩ := opd_lst ox
    obtain rfl : u = Value.ref a := r1
    obtain ⟨its, rv, p', hz⟩ := I1.list (SqL.of ha)
    refine call_reversed_list p'.isList (args_nil ?_)
    have k0 : ∀ b o, s1.heap.get? b = some o → (s1.heap.push (revObj a ((its.toArray.size : Int) - 1))).get? b = some o := fun b o e => Heap.get?_push_of_some _ e
    have I2 : Inv X pins σ H1 { s1 with heap := s1.heap.push (revObj a ((its.toArray.size : Int) - 1)) } := I1.kept (t' := s1.toks) k0
    have fr := fresh_of I1 (Nat.le_refl s1.heap.objs.size)
    have fn := I1.hok.fresh (Nat.le_refl s1.heap.objs.size)
    have hl := p'.isList
    obtain ⟨ol, hol, _⟩ := id hl
    have hne : a ≠ s1.heap.objs.size := Nat.ne_of_lt (Heap.lt_size hol)
    have hn : its.toArray.size ≤ sizeLine := by rw [List.size_toArray, ← rv.length]; exact hz
    have sz1 : (s1.heap.push (revObj a ((its.toArray.size : Int) - 1))).objs.size = s1.heap.objs.size + 1 := size_push' ..
    refine call_list_rv (s := { s1 with heap := s1.heap.push (revObj a ((its.toArray.size : Int) - 1)) }) (I1.ok.hd hc) ⟨_, Heap.get?_push_size _ rfl, rfl, rfl⟩ (hl.push _) hne hn fun h' tk acc c' hk hS' hi => ?_
    have I3 : Inv X pins σ H1 { s1 with heap := h', toks := tk } := turn1 (s := { s1 with heap := s1.heap.push (revObj a ((its.toArray.size : Int) - 1)) }) (t' := tk) I2 fr fn fun b o hb e => hk b o hb e
    have fA : Fresh X pins (s1.heap.push (revObj a ((its.toArray.size : Int) - 1))).objs.size := fresh_of I2 (Nat.le_refl _)
    have nA : H1 (s1.heap.push (revObj a ((its.toArray.size : Int) - 1))).objs.size = none := I2.hok.fresh (Nat.le_refl _)
    have rl : vs.reverse.length ≤ sizeLine := by rw [List.length_reverse]; exact hz
    have e3 : acc.toList.toArray = acc := by simp
    exact ⟨.ref _, upd H1 _ (.lst vs.reverse), adopt I3 fA nA (show ObjOk X.prog X.w _ _ _ (.lst vs.reverse) from ⟨rl, acc.toList, c', RT.vals_rev rv hi, by rw [e3]; exact hS'⟩), rfl, q1 _ _ (.lst nA ra.reverse)⟩
  · cases ez
end
end MC
set_option Elab.async false
set_option linter.all false
set_option maxRecDepth 100000
set_option maxHeartbeats 4000000
namespace MC
open PySem

/-! ### running on an environment -/
section
variable {α β : Type} {ρ ρ' : Env}
theorem bind_run (f : M α) (g : α → M β) (ρ : Env) : (f >>= g) ρ = (f ρ).bind fun p => g p.1 p.2 := by
  rw [bind_eq]; cases f ρ <;> rfl
theorem pure_run (a : α) (ρ : Env) : (pure a : M α) ρ = some (a, ρ) := rfl
theorem lift_run (o : Option α) (ρ : Env) : lift o ρ = o.map fun a => (a, ρ) := lift_eq o ρ
theorem bad_run (ρ : Env) : (bad : M α) ρ = none := rfl
theorem ite_run (c : Prop) [Decidable c] (f g : M α) (ρ : Env) : (if c then f else g) ρ = if c then f ρ else g ρ := by split <;> rfl
theorem bind_of {f : M α} {g : α → M β} {a : α} {r : Option (β × Env)} (h : f ρ = some (a, ρ')) (k : g a ρ' = r) : (f >>= g) ρ = r := by rw [bind_run, h]; exact k

/-! ### loops -/
theorem forM_inv {h : PV → M Unit} {f : M Fl} (P : Nat → Env → Prop) : ∀ (xs : List PV) (n : Nat) (ρ : Env), P n ρ → (∀ i x ρ, xs[i]? = some x → P (n + i) ρ → ∃ ρ', ((h x >>= fun _ => f) ρ = some (.nx, ρ') ∨ (h x >>= fun _ => f) ρ = some (.ct, ρ')) ∧ P (n + i + 1) ρ') →
    ∃ ρ', forM h f xs ρ = some (.nx, ρ') ∧ P (n + xs.length) ρ'
  | [], n, ρ, p, _ => ⟨ρ, rfl, p⟩
  | x :: xs, n, ρ, p, hs => by
    obtain ⟨ρ1, h1, p1⟩ := hs 0 x ρ rfl p
    obtain ⟨ρ2, h2, p2⟩ := forM_inv P xs (n + 1) ρ1 p1 fun i y ρ e q => by
      have := hs (i + 1) y ρ (by simpa using e) (by rw [show n + (i + 1) = n + 1 + i by omega]; exact q)
      rw [show n + (i + 1) + 1 = n + 1 + i + 1 by omega] at this
      exact this
    refine ⟨ρ2, ?_, by rw [show n + (x :: xs).length = n + 1 + xs.length by simp; omega]; exact p2⟩
    show (h x >>= fun _ => f >>= fun r => _) ρ = _
    have key : ∀ r, ((h x >>= fun _ => f) ρ = some (r, ρ1)) → (h x >>= fun _ => f >>= fun r => match r with
      | .nx => forM h f xs
      | .ct => forM h f xs
      | .bk => pure .nx
      | .rt y => pure (.rt y)) ρ = (match r with
      | .nx => forM h f xs
      | .ct => forM h f xs
      | .bk => pure .nx
      | .rt y => pure (.rt y)) ρ1 := fun r e => by
        rw [bind_run] at e ⊢
        cases q : h x ρ with
        | none => rw [q] at e; cases e
        | some z =>
          rw [q] at e
          have e : f z.2 = some (r, ρ1) := e
          show (f >>= _) z.2 = _
          exact bind_of e rfl
    rcases h1 with h1 | h1
    · exact (key _ h1).trans h2
    · exact (key _ h1).trans h2
/-- a walk that ends with an answer at the first item that is bad -/
theorem forM_stop {h : PV → M Unit} {f : M Fl} (P : Env → Prop) (y : OV) (bad : PV → Bool) : ∀ (xs : List PV) (ρ : Env), P ρ → (∀ x ρ, x ∈ xs → P ρ → ∃ ρ', (h x >>= fun _ => f) ρ = some (if bad x = true then .rt y else .nx, ρ') ∧ P ρ') →
    ∃ ρ', forM h f xs ρ = some (if xs.any bad = true then .rt y else .nx, ρ') ∧ P ρ'
  | [], ρ, p, _ => ⟨ρ, rfl, p⟩
  | x :: xs, ρ, p, hs => by
    obtain ⟨ρ1, h1, p1⟩ := hs x ρ List.mem_cons_self p
    have key : forM h f (x :: xs) ρ = (match (if bad x = true then Fl.rt y else Fl.nx) with
      | .nx => forM h f xs
      | .ct => forM h f xs
      | .bk => pure .nx
      | .rt y => pure (.rt y)) ρ1 := by
      show (h x >>= fun _ => f >>= fun r => _) ρ = _
      rw [bind_run] at h1 ⊢
      cases q : h x ρ with
      | none => rw [q] at h1; cases h1
      | some z =>
        rw [q] at h1
        exact bind_of (show f z.2 = some (_, ρ1) from h1) rfl
    rw [key]
    by_cases b : bad x = true
    · rw [if_pos b, if_pos (by simp [b])]
      exact ⟨ρ1, rfl, p1⟩
    · rw [if_neg b]
      obtain ⟨ρ2, h2, p2⟩ := forM_stop P y bad xs ρ1 p1 fun z ρ hz q => hs z ρ (List.mem_cons_of_mem _ hz) q
      refine ⟨ρ2, ?_, p2⟩
      have e : (x :: xs).any bad = xs.any bad := by
        have : bad x = false := by simpa using b
        simp [this]
      rw [e]; exact h2
/-- the same with the state named: step by step through E -/
theorem forM_nx {h : PV → M Unit} {f : M Fl} (E : Nat → Env) (xs : List PV) (hs : ∀ i x, xs[i]? = some x → (h x >>= fun _ => f) (E i) = some (.nx, E (i + 1)) ∨ (h x >>= fun _ => f) (E i) = some (.ct, E (i + 1))) :
    forM h f xs (E 0) = some (.nx, E xs.length) := by
  obtain ⟨ρ', h1, rfl⟩ := forM_inv (fun n ρ => ρ = E n) xs 0 (E 0) rfl fun i x ρ e q => by
    subst q
    rw [Nat.zero_add]
    exact ⟨E (i + 1), hs i x e, rfl⟩
  rw [h1, Nat.zero_add]
theorem lcLoop_inv {vs : List Nat} {h : PV → M Unit} {ft : M Bool} {fe : M PV} (P : Nat → List PV → Env → Prop) : ∀ (xs : List PV) (n : Nat) (acc : List PV) (ρ : Env), P n acc ρ →
    (∀ i x acc ρ, xs[i]? = some x → P (n + i) acc ρ → ∃ b ρ1, (h x >>= fun _ => ft) ρ = some (b, ρ1) ∧ (b = true → ∃ y ρ2, fe ρ1 = some (y, ρ2) ∧ P (n + i + 1) (acc ++ [y]) (clear vs ρ2)) ∧ (b = false → P (n + i + 1) acc (clear vs ρ1))) →
    ∃ ys ρ', lcLoop vs h ft fe xs ρ = some (ys, ρ') ∧ P (n + xs.length) (acc ++ ys) ρ'
  | [], n, acc, ρ, p, _ => ⟨[], ρ, rfl, by rw [List.append_nil]; exact p⟩
  | x :: xs, n, acc, ρ, p, hs => by
    obtain ⟨b, ρ1, h1, h2, h3⟩ := hs 0 x acc ρ rfl p
    have rest : ∀ acc ρ, P (n + 1) acc ρ → ∃ ys ρ', lcLoop vs h ft fe xs ρ = some (ys, ρ') ∧ P (n + 1 + xs.length) (acc ++ ys) ρ' := fun acc ρ p1 => lcLoop_inv P xs (n + 1) acc ρ p1 fun i y acc ρ e q => by
      have := hs (i + 1) y acc ρ (by simpa using e) (by rw [show n + (i + 1) = n + 1 + i by omega]; exact q)
      rw [show n + (i + 1) + 1 = n + 1 + i + 1 by omega] at this
      exact this
    have ln : n + (x :: xs).length = n + 1 + xs.length := by simp; omega
    rw [ln]
    have open_ : ∀ (r : Option (List PV × Env)), (if b = true then fe >>= fun y => clr vs >>= fun _ => lcLoop vs h ft fe xs >>= fun ys => pure (y :: ys) else clr vs >>= fun _ => lcLoop vs h ft fe xs) ρ1 = r → lcLoop vs h ft fe (x :: xs) ρ = r := fun r e => by
      unfold lcLoop
      rw [bind_run] at h1 ⊢
      cases q : h x ρ with
      | none => rw [q] at h1; cases h1
      | some z =>
        rw [q] at h1
        exact bind_of (show ft z.2 = some (b, ρ1) from h1) e
    cases b with
    | true =>
      obtain ⟨y, ρ2, h4, p2⟩ := h2 rfl
      obtain ⟨ys, ρ', h5, p5⟩ := rest _ _ p2
      refine ⟨y :: ys, ρ', open_ _ ?_, by rw [List.append_assoc] at p5; exact p5⟩
      rw [if_pos rfl]
      refine bind_of h4 (bind_of rfl (bind_of h5 rfl))
    | false =>
      obtain ⟨ys, ρ', h5, p5⟩ := rest _ _ (h3 rfl)
      refine ⟨ys, ρ', open_ _ ?_, p5⟩
      rw [if_neg Bool.false_ne_true]
      exact bind_of rfl h5
/-- a comprehension whose parts leave the environment alone -/
theorem lcLoop_pure {vs : List Nat} {h : PV → M Unit} {ft : M Bool} {fe : M PV} {ρ : Env} (p : PV → Bool) (g : PV → PV) : ∀ (xs : List PV),
    (∀ x ∈ xs, ∃ ρ1, (h x >>= fun _ => ft) ρ = some (p x, ρ1) ∧ (p x = true → ∃ ρ2, fe ρ1 = some (g x, ρ2) ∧ clear vs ρ2 = ρ) ∧ (p x = false → clear vs ρ1 = ρ)) → lcLoop vs h ft fe xs ρ = some ((xs.filter p).map g, ρ)
  | [], _ => rfl
  | x :: xs, hs => by
    have ih := lcLoop_pure p g xs fun y hy => hs y (List.mem_cons_of_mem _ hy)
    obtain ⟨ρ1, h1, h2, h3⟩ := hs x List.mem_cons_self
    have open_ : ∀ (r : Option (List PV × Env)), (if p x = true then fe >>= fun y => clr vs >>= fun _ => lcLoop vs h ft fe xs >>= fun ys => pure (y :: ys) else clr vs >>= fun _ => lcLoop vs h ft fe xs) ρ1 = r → lcLoop vs h ft fe (x :: xs) ρ = r := fun r e => by
      unfold lcLoop
      rw [bind_run] at h1 ⊢
      cases q : h x ρ with
      | none => rw [q] at h1; cases h1
      | some z =>
        rw [q] at h1
        exact bind_of (show ft z.2 = some (p x, ρ1) from h1) e
    refine open_ _ ?_
    cases e : p x with
    | true =>
      obtain ⟨ρ2, h4, e4⟩ := h2 e
      rw [if_pos rfl]
      refine bind_of h4 (bind_of rfl ?_)
      rw [e4]
      refine bind_of ih ?_
      rw [List.filter_cons_of_pos e]; rfl
    | false =>
      rw [if_neg Bool.false_ne_true]
      refine bind_of rfl ?_
      rw [h3 e, ih, List.filter_cons_of_neg (by rw [e]; exact Bool.false_ne_true)]
theorem lc2Loop_pure {vs vs1 : List Nat} {h h1 : PV → M Unit} {ft ft1 : M Bool} {fi1 : M (List PV)} {fe : M PV} {ρ : Env} (g : PV → List PV) : ∀ (xs : List PV),
    (∀ x ∈ xs, ∃ ρ1 ρ2 ρ3 xs1, (h x >>= fun _ => ft) ρ = some (true, ρ1) ∧ fi1 ρ1 = some (xs1, ρ2) ∧ lcLoop vs1 h1 ft1 fe xs1 (clear vs1 ρ2) = some (g x, ρ3) ∧ clear vs ρ3 = ρ) → lc2Loop vs vs1 h ft fi1 h1 ft1 fe xs ρ = some (xs.flatMap g, ρ)
  | [], _ => rfl
  | x :: xs, hs => by
    have ih := lc2Loop_pure g xs fun y hy => hs y (List.mem_cons_of_mem _ hy)
    obtain ⟨ρ1, ρ2, ρ3, xs1, e1, e2, e3, e4⟩ := hs x List.mem_cons_self
    unfold lc2Loop
    rw [bind_run] at e1 ⊢
    cases q : h x ρ with
    | none => rw [q] at e1; cases e1
    | some z =>
      rw [q] at e1
      refine bind_of (show ft z.2 = some (true, ρ1) from e1) ?_
      rw [if_pos rfl]
      refine bind_of e2 (bind_of rfl (bind_of e3 (bind_of rfl ?_)))
      rw [e4]
      exact bind_of ih rfl
theorem whileM_true {c : M Bool} {f : M Fl} {ρ ρ1 ρ2 : Env} {r : Fl × Env} (hc : c ρ = some (true, ρ1)) (hf : f ρ1 = some (.nx, ρ2)) (h : whileM c f ρ2 = some r) : whileM c f ρ = some r := by
  obtain ⟨n, e⟩ := whileM_inv h
  refine whileM_of (n := n + 1) ?_
  unfold whileN
  refine bind_of hc ?_
  rw [if_pos rfl]
  exact bind_of hf e
theorem whileM_false {c : M Bool} {f : M Fl} {ρ ρ1 : Env} (hc : c ρ = some (false, ρ1)) : whileM c f ρ = some (.nx, ρ1) := by
  refine whileM_of (n := 1) ?_
  unfold whileN
  refine bind_of hc ?_
  rw [if_neg Bool.false_ne_true]; rfl
end

/-! ### by statements -/
theorem fn_run {xs : List PV} {n N : Nat} {ios : List Nat} {f : M Fl} {ρ0 ρ : Env} {y : OV} {zs : List PV} (hl : xs.length = n) (h0 : argE ios 0 xs ++ List.replicate (N - xs.length) none = ρ0) (e : f ρ0 = some (.rt y, ρ)) (o : outs ρ ios = some zs) : fnOf n N ios f xs = some (y, zs) := by
  unfold fnOf
  rw [if_pos hl]
  unfold runF
  rw [h0, e]
  show (outs ρ ios).map _ = _
  rw [o]; rfl
section
variable {ρ ρ' : Env} {f g : M Fl} {r : Option (Fl × Env)}
theorem seq_nx (h : f ρ = some (.nx, ρ')) (k : g ρ' = r) : seqM f g ρ = r := bind_of h k
theorem seq_rt {y : OV} (h : f ρ = some (.rt y, ρ')) : seqM f g ρ = some (.rt y, ρ') := bind_of h rfl
theorem ret_run {f : M OV} {x : OV} (h : f ρ = some (x, ρ')) : retM f ρ = some (.rt x, ρ') := bind_of h rfl
theorem set_run {f : M OV} {x : OV} {i : Nat} (h : f ρ = some (x, ρ')) : setM i f ρ = some (.nx, ρ'.set i (some (x.1, x.2))) := bind_of h rfl
theorem drop_run {f : M OV} {x : OV} (h : f ρ = some (x, ρ')) : dropM f ρ = some (.nx, ρ') := bind_of h rfl
theorem if_t {α : Type} {c : M Bool} {f g : M α} {r : Option (α × Env)} (h : c ρ = some (true, ρ')) (k : f ρ' = r) : ifM c f g ρ = r := bind_of h (by rw [if_pos rfl]; exact k)
theorem if_f {α : Type} {c : M Bool} {f g : M α} {r : Option (α × Env)} (h : c ρ = some (false, ρ')) (k : g ρ' = r) : ifM c f g ρ = r := bind_of h (by rw [if_neg Bool.false_ne_true]; exact k)
theorem or_run {c : M Bool} {d : M Bool} {a b : Bool} {ρ2 : Env} (h : c ρ = some (a, ρ')) (k : a = false → d ρ' = some (b, ρ2)) (e : a = true → ρ' = ρ2 ∧ b = true) : MC.orM c d ρ = some (b, ρ2) := bind_of h (by
  cases a with
  | true => obtain ⟨rfl, rfl⟩ := e rfl; rfl
  | false => rw [if_neg Bool.false_ne_true]; exact k rfl)
theorem not_run {c : M Bool} {a : Bool} (h : c ρ = some (a, ρ')) : MC.notM c ρ = some (!a, ρ') := bind_of h rfl
end

/-! ### ranges -/
theorem inRange_nat {n : Nat} (h : n ≤ 100000) : inRange n = true := by unfold inRange; exact decide_eq_true ⟨by omega, by omega⟩
theorem range_len (n : Nat) : (rangeL 0 n).length = n := by simp [rangeL]
theorem range_get {n i : Nat} {x : PV} (h : (rangeL 0 n)[i]? = some x) : i < n ∧ x = .int i := by
  unfold rangeL at h
  rw [List.getElem?_map] at h
  obtain ⟨j, h1, h2⟩ := Option.map_eq_some_iff.mp h
  obtain ⟨h3, h4⟩ := List.getElem?_eq_some_iff.mp h1
  simp at h3 h4
  subst h4
  exact ⟨by omega, by rw [← h2]; simp⟩
theorem range1_run {f : M PV} {ρ ρ' : Env} {n : Nat} (h : f ρ = some (.int n, ρ')) (hn : n ≤ 100000) : range1M f ρ = some (rangeL 0 n, ρ') := by
  unfold range1M
  rw [bind_run, h]
  rfl
theorem for_range {f : M PV} {h : PV → M Unit} {g : M Fl} {ρ ρ' ρ2 : Env} {n : Nat} (e : f ρ = some (.int n, ρ')) (hn : n ≤ 100000) (k : forM h g (rangeL 0 n) ρ' = some (.nx, ρ2)) : (range1M f >>= forM h g) ρ = some (.nx, ρ2) :=
  bind_of (range1_run e hn) k
theorem within_run {α : Type} {vs : List Nat} {f : M α} {ρ ρ1 ρ2 ρ3 : Env} {a : α} (h1 : clear vs ρ = ρ1) (h2 : f ρ1 = some (a, ρ2)) (h3 : restore ρ vs ρ2 = ρ3) : within vs f ρ = some (a, ρ3) := by
  unfold within
  rw [h1, h2, ← h3]
theorem lst_run {ys : List PV} {ρ : Env} (h : ys.length ≤ 100000) : lift (MC.when (fits ys.length) (some (true, PV.lst ys))) ρ = some ((true, .lst ys), ρ) := by
  have : fits ys.length = true := decide_eq_true (Nat.le_trans h (by decide))
  rw [this]; rfl

/-! ### texts as lists of numbers -/
abbrev S (l : List Nat) : PV := .str ⟨⟨l⟩⟩
theorem str_app (a b : List Nat) : ((⟨⟨a⟩⟩ : Str) ++ (⟨⟨b⟩⟩ : Str)) = ⟨⟨a ++ b⟩⟩ := by
  show Str.append _ _ = _
  simp [Str.append]
theorem str_len (a : List Nat) : Str.length ⟨⟨a⟩⟩ = a.length := rfl
theorem fits_of {n : Nat} (h : n ≤ 100000) : fits n = true := decide_eq_true (Nat.le_trans h (by decide))

/-! ### single operations -/
def low (a : List Nat) : Bool := a.all fun c => decide (c < 0x110000)
section
variable {i j : Int} {a b : List Nat} {xs ys : List PV} {x y : PV} {l : Bool}
open PyProof.Rows (b2i)
theorem addP_ii : addP (.int i) (.int j) = some (false, .int (i + j)) := rfl
theorem addP_ib (k : Bool) : addP (.int i) (.bl k) = some (false, .int (i + if k = true then 1 else 0)) := by cases k <;> rfl
theorem addP_ss (h : fits (a.length + b.length) = true) : addP (.str ⟨⟨a⟩⟩) (.str ⟨⟨b⟩⟩) = some (false, .str ⟨⟨a ++ b⟩⟩) := by
  show MC.when (fits (a.length + b.length)) _ = _
  rw [h, str_app]; rfl
theorem addP_ll (h : fits (xs.length + ys.length) = true) : addP (.lst xs) (.lst ys) = some (true, .lst (xs ++ ys)) := by
  show MC.when (fits (xs.length + ys.length)) _ = _
  rw [h]; rfl
theorem addP_tt (h : fits (xs.length + ys.length) = true) : addP (.tup xs) (.tup ys) = some (false, .tup (xs ++ ys)) := by
  show MC.when (fits (xs.length + ys.length)) _ = _
  rw [h]; rfl
theorem iaddP_ii : iaddP (.int i) (.int j) = some (false, .int (i + j)) := rfl
theorem subP_ii : subP (.int i) (.int j) = some (false, .int (i - j)) := rfl
theorem mulP_ii (h : mulOk i j = true) : mulP (.int i) (.int j) = some (false, .int (i * j)) := by
  show MC.when (mulOk i j) _ = _
  rw [h]; rfl
theorem mulP_si (h : (decide (-(2 ^ 30) ≤ j ∧ j < 2 ^ 30) && fits (a.length * j.toNat)) = true) : mulP (.str ⟨⟨a⟩⟩) (.int j) = some (false, .str ⟨⟨(List.replicate j.toNat a).flatten⟩⟩) := by
  show MC.when (decide (-(2 ^ 30) ≤ j ∧ j < 2 ^ 30) && fits (a.length * j.toNat)) _ = _
  rw [h]; rfl
theorem fdivP_ii (h : divOk j = true) : fdivP (.int i) (.int j) = some (false, .int (i.fdiv j)) := by
  show MC.when (divOk j) _ = _
  rw [h]; rfl
theorem modP_ii (h : j ≠ 0) : modP (.int i) (.int j) = some (false, .int (i.fmod j)) := by
  show MC.when (decide (j ≠ 0)) _ = _
  rw [decide_eq_true h]; rfl
theorem negP_i : negP (.int i) = some (false, .int (-i)) := rfl
theorem absP_i : absP (.int i) = some (false, .int (if i < 0 then -i else i)) := rfl
theorem intP_i : intP (.int i) = some (false, .int i) := rfl
theorem intP_b (k : Bool) : intP (.bl k) = some (false, .int (if k = true then 1 else 0)) := rfl
theorem ltP_ii : ltP (.int i) (.int j) = some (false, .bl (decide (i < j))) := rfl
theorem leP_ii : leP (.int i) (.int j) = some (false, .bl (decide (i ≤ j))) := rfl
theorem gtP_ii : gtP (.int i) (.int j) = some (false, .bl (decide (j < i))) := rfl
theorem geP_ii : geP (.int i) (.int j) = some (false, .bl (decide (j ≤ i))) := rfl
theorem ltP_ss : ltP (.str ⟨⟨a⟩⟩) (.str ⟨⟨b⟩⟩) = some (false, .bl (decide (a < b))) := rfl
theorem leP_ss : leP (.str ⟨⟨a⟩⟩) (.str ⟨⟨b⟩⟩) = some (false, .bl (!decide (b < a))) := rfl
theorem gtP_ss : gtP (.str ⟨⟨a⟩⟩) (.str ⟨⟨b⟩⟩) = some (false, .bl (decide (b < a))) := rfl
theorem geP_ss : geP (.str ⟨⟨a⟩⟩) (.str ⟨⟨b⟩⟩) = some (false, .bl (!decide (a < b))) := rfl
theorem eqP_ii : eqP (.int i) (.int j) = some (false, .bl (decide (i = j))) := by
  have : eqPV (.int i) (.int j) = decide (i = j) := by unfold eqPV toD; rw [show ∀ A B, PyData.eqv A B = PyData.eqv A B from fun _ _ => rfl]; simp only [PyData.eqv]; rw [Bool.eq_iff_iff]; simp
  unfold eqP shapedP toD SeqAt.shaped
  rw [this]; rfl
theorem eqP_ss (ha : low a = true) (hb : low b = true) : eqP (.str ⟨⟨a⟩⟩) (.str ⟨⟨b⟩⟩) = some (false, .bl (decide (a = b))) := by
  have : eqPV (.str ⟨⟨a⟩⟩) (.str ⟨⟨b⟩⟩) = decide (a = b) := by unfold eqPV toD; simp only [PyData.eqv]; rw [Bool.eq_iff_iff]; simp
  have h1 : shapedP (.str ⟨⟨a⟩⟩) = true := by
    show ((⟨a⟩ : Array Nat).all (· < 0x110000) && _) = true
    rw [← Array.all_toList, show a.all _ = true from ha]; rfl
  have h2 : shapedP (.str ⟨⟨b⟩⟩) = true := by
    show ((⟨b⟩ : Array Nat).all (· < 0x110000) && _) = true
    rw [← Array.all_toList, show b.all _ = true from hb]; rfl
  unfold eqP
  rw [this, h1, h2]; rfl
theorem neP_ii : neP (.int i) (.int j) = some (false, .bl (!decide (i = j))) := by
  have : eqPV (.int i) (.int j) = decide (i = j) := by unfold eqPV toD; rw [show ∀ A B, PyData.eqv A B = PyData.eqv A B from fun _ _ => rfl]; simp only [PyData.eqv]; rw [Bool.eq_iff_iff]; simp
  unfold neP shapedP toD SeqAt.shaped
  rw [this]; rfl
theorem neP_ss (ha : low a = true) (hb : low b = true) : neP (.str ⟨⟨a⟩⟩) (.str ⟨⟨b⟩⟩) = some (false, .bl (!decide (a = b))) := by
  have : eqPV (.str ⟨⟨a⟩⟩) (.str ⟨⟨b⟩⟩) = decide (a = b) := by unfold eqPV toD; simp only [PyData.eqv]; rw [Bool.eq_iff_iff]; simp
  have h1 : shapedP (.str ⟨⟨a⟩⟩) = true := by
    show ((⟨a⟩ : Array Nat).all (· < 0x110000) && _) = true
    rw [← Array.all_toList, show a.all _ = true from ha]; rfl
  have h2 : shapedP (.str ⟨⟨b⟩⟩) = true := by
    show ((⟨b⟩ : Array Nat).all (· < 0x110000) && _) = true
    rw [← Array.all_toList, show b.all _ = true from hb]; rfl
  unfold neP
  rw [this, h1, h2]; rfl
theorem isP_b (k m : Bool) : isP (.bl k) (.bl m) = some (false, .bl (decide (k = m))) := rfl
theorem isNotP_b (k m : Bool) : isNotP (.bl k) (.bl m) = some (false, .bl (!decide (k = m))) := rfl
theorem inP_1 (c : Nat) : inP (.str ⟨⟨[c]⟩⟩) (.str ⟨⟨b⟩⟩) = some (false, .bl (decide (c ∈ b))) := rfl
theorem notInP_1 (c : Nat) : notInP (.str ⟨⟨[c]⟩⟩) (.str ⟨⟨b⟩⟩) = some (false, .bl (!decide (c ∈ b))) := rfl
theorem lenP_s (h : fits a.length = true) : lenP (.str ⟨⟨a⟩⟩) = some (false, .int a.length) := by
  show MC.when (fits a.length) _ = _
  rw [h]; rfl
theorem lenP_l : lenP (.lst xs) = some (false, .int xs.length) := rfl
theorem lenP_t : lenP (.tup xs) = some (false, .int xs.length) := rfl
theorem lenP_q : lenP (.sq l xs) = some (false, .int xs.length) := rfl
theorem listP_s (h : fits a.length = true) : listP (.str ⟨⟨a⟩⟩) = some (true, .lst (a.map sign)) := by
  show MC.when (fits a.length) _ = _
  rw [h]; rfl
theorem listP_l : listP (.lst xs) = some (true, .lst xs) := rfl
theorem listP_t : listP (.tup xs) = some (true, .lst xs) := rfl
theorem tupleP_l : tupleP (.lst xs) = some (false, .tup xs) := rfl
theorem tupleP_t : tupleP (.tup xs) = some (false, .tup xs) := rfl
theorem ixP_l : ixP (.lst xs) (.int i) = (L2.atI xs i).map fun x => (false, x) := rfl
theorem ixP_t : ixP (.tup xs) (.int i) = (L2.atI xs i).map fun x => (false, x) := rfl
theorem ixP_q : ixP (.sq l xs) (.int i) = (L2.atI xs i).map fun x => (false, x) := rfl
theorem ixP_s (h : fits a.length = true) : ixP (.str ⟨⟨a⟩⟩) (.int i) = (L2.atI a i).map fun c => (false, .str ⟨⟨[c]⟩⟩) := by
  show (if fits a.length then (L2.atI a i).map _ else none) = _
  rw [if_pos h]; rfl
theorem atI_nat {α : Type} (zs : List α) (n : Nat) : L2.atI zs (n : Int) = zs[n]? := by
  unfold L2.atI L2.ixN
  rw [if_pos (by omega)]
  by_cases h : n < zs.length
  · rw [if_pos (by omega)]; rfl
  · rw [if_neg (by omega), List.getElem?_eq_none (by omega)]; rfl
theorem atI_2 {α : Type} (zs : List α) : L2.atI zs 2 = zs[2]? := atI_nat zs 2
theorem atI_3 {α : Type} (zs : List α) : L2.atI zs 3 = zs[3]? := atI_nat zs 3
theorem atI_4 {α : Type} (zs : List α) : L2.atI zs 4 = zs[4]? := atI_nat zs 4
theorem atI_0 {α : Type} (zs : List α) : L2.atI zs 0 = zs[0]? := atI_nat zs 0
theorem atI_1 {α : Type} (zs : List α) : L2.atI zs 1 = zs[1]? := atI_nat zs 1
theorem atI_last {α : Type} (zs : List α) : L2.atI zs (-1) = zs.getLast? := by
  unfold L2.atI L2.ixN
  rw [if_neg (by omega)]
  by_cases h : zs = []
  · subst h; rfl
  · have : 0 < zs.length := List.length_pos_iff.mpr h
    rw [if_pos (by omega), List.getLast?_eq_getElem?]
    show zs[(-1 + (zs.length : Int)).toNat]? = _
    congr 1; omega
theorem setV_l {v : PV} : setV (.lst xs) (.int i) v = (L2.ixN xs.length i).map fun j => .lst (xs.set j v) := rfl
theorem getV_l : getV (.lst xs) (.int i) = L2.atI xs i := rfl
theorem ixN_nat (m n : Nat) : L2.ixN m (n : Int) = if n < m then some n else none := by
  unfold L2.ixN
  rw [if_pos (by omega)]
  by_cases h : n < m
  · rw [if_pos (by omega), if_pos h]; rfl
  · rw [if_neg (by omega), if_neg h]
theorem ixN_2 (m : Nat) : L2.ixN m 2 = if 2 < m then some 2 else none := ixN_nat m 2
theorem ixN_3 (m : Nat) : L2.ixN m 3 = if 3 < m then some 3 else none := ixN_nat m 3
theorem ixN_4 (m : Nat) : L2.ixN m 4 = if 4 < m then some 4 else none := ixN_nat m 4
theorem ixN_0 (m : Nat) : L2.ixN m 0 = if 0 < m then some 0 else none := ixN_nat m 0
theorem ixN_1 (m : Nat) : L2.ixN m 1 = if 1 < m then some 1 else none := ixN_nat m 1
theorem popP_n {n : Nat} (h : n < xs.length) (h1 : xs.length < 100000) : popP xs [.int n] = some (xs[n], xs.eraseIdx n) := by
  have c : decide (-(2 ^ 63) ≤ (n : Int) ∧ (n : Int) < 2 ^ 63) = true := decide_eq_true ⟨by omega, by omega⟩
  unfold popP
  simp only [c, ixN_nat, h, if_true, Option.bind_some, List.getElem?_eq_getElem, Option.map_some]
theorem appendP_1 (h : xs.length < 100000) : appendP xs [x] = some (.non, xs ++ [x]) := by
  have : decide (xs.length < sizeLine) = true := decide_eq_true (Nat.lt_of_lt_of_le h (by decide))
  exact if_pos this
theorem extendP_l (h : xs.length + ys.length < 100000) : extendP xs [.lst ys] = some (.non, xs ++ ys) := by
  have : decide (xs.length + ys.length ≤ sizeLine) = true := decide_eq_true (Nat.le_trans (Nat.le_of_lt h) (by decide))
  exact if_pos this
theorem take_min_len {α : Type} (l : List α) (n : Nat) : l.take (min n l.length) = l.take n := by
  by_cases h : n ≤ l.length
  · rw [Nat.min_eq_left h]
  · rw [Nat.min_eq_right (by omega), List.take_length, List.take_of_length_le (by omega)]
theorem slP_to {n : Nat} (h : fits a.length = true) : slP (.str ⟨⟨a⟩⟩) none (some (n : Int)) = some (false, .str ⟨⟨a.take n⟩⟩) := by
  show (if fits a.length then fl (.str (L2.cutS ⟨⟨a⟩⟩ none (some (n : Int)))) else none) = _
  rw [if_pos h]
  have : L2.cutS ⟨⟨a⟩⟩ none (some (n : Int)) = ⟨⟨a.take n⟩⟩ := by
    unfold L2.cutS
    rw [HT.sIx_none, HT.sIx_nat]
    show (⟨⟨(a.drop 0).take (min n a.length - 0)⟩⟩ : Str) = _
    rw [List.drop_zero, Nat.sub_zero, take_min_len]
  rw [this]; rfl
theorem slP_from {n : Nat} (h : fits a.length = true) : slP (.str ⟨⟨a⟩⟩) (some (n : Int)) none = some (false, .str ⟨⟨a.drop n⟩⟩) := by
  show (if fits a.length then fl (.str (L2.cutS ⟨⟨a⟩⟩ (some (n : Int)) none)) else none) = _
  rw [if_pos h]
  have : L2.cutS ⟨⟨a⟩⟩ (some (n : Int)) none = ⟨⟨a.drop n⟩⟩ := by
    unfold L2.cutS
    rw [HT.sIx_none, HT.sIx_nat]
    show (⟨⟨(a.drop (min n a.length)).take (a.length - min n a.length)⟩⟩ : Str) = _
    rw [List.take_of_length_le (by rw [List.length_drop]; exact Nat.le_refl _)]
    by_cases hn : n ≤ a.length
    · rw [Nat.min_eq_left hn]
    · rw [Nat.min_eq_right (by omega), List.drop_length, List.drop_eq_nil_of_le (by omega)]
  rw [this]; rfl
end
theorem when_true (x : Option OV) : when true x = x := rfl
end MC
set_option Elab.async false
set_option linter.all false
set_option maxRecDepth 100000
set_option maxHeartbeats 4000000
namespace MC
open PySem

/-! ### values that hold no truth and no dict: equal for Python exactly if equal -/
def TV : Nat → PV → Prop
  | 0, x => match x with
    | .int _ => True
    | .non => True
    | .str s => PyData.strOk s = true
    | _ => False
  | k + 1, x => match x with
    | .int _ => True
    | .non => True
    | .str s => PyData.strOk s = true
    | .tup xs => ∀ y ∈ xs, TV k y
    | .lst xs => ∀ y ∈ xs, TV k y
    | _ => False
theorem TV.int {k : Nat} {i : Int} : TV k (.int i) := by cases k <;> exact trivial
theorem TV.non {k : Nat} : TV k .non := by cases k <;> exact trivial
theorem TV.str {k : Nat} {s : Str} (h : PyData.strOk s = true) : TV k (.str s) := by cases k <;> exact h
theorem TV.tup {k : Nat} {xs : List PV} (h : ∀ y ∈ xs, TV k y) : TV (k + 1) (.tup xs) := h
theorem TV.lst {k : Nat} {xs : List PV} (h : ∀ y ∈ xs, TV k y) : TV (k + 1) (.lst xs) := h
theorem TV.tup_inv {k : Nat} {xs : List PV} (h : TV (k + 1) (.tup xs)) : ∀ y ∈ xs, TV k y := h
theorem TV.mono : ∀ {k j : Nat} {x : PV}, TV k x → k ≤ j → TV j x
  | 0, 0, x, h, _ => h
  | 0, j + 1, x, h, _ => by cases x <;> first | exact h | exact h.elim
  | k + 1, 0, x, h, e => absurd e (by omega)
  | k + 1, j + 1, x, h, e => by
    cases x with
    | tup xs => exact fun y hy => TV.mono (h y hy) (by omega)
    | lst xs => exact fun y hy => TV.mono (h y hy) (by omega)
    | _ => first | exact h | exact h.elim
theorem canAll_of : ∀ {xs : List PV}, (∀ y ∈ xs, (toD y).canLay0 = true) → PyData.canLayAll0 (toDs xs) = true
  | [], _ => rfl
  | x :: xs, h => by
    have e : toDs (x :: xs) = toD x :: toDs xs := rfl
    rw [e]
    unfold PyData.canLayAll0
    rw [h x List.mem_cons_self, canAll_of fun y hy => h y (List.mem_cons_of_mem _ hy)]; rfl
theorem depAll_of {k : Nat} : ∀ {xs : List PV}, (∀ y ∈ xs, (toD y).depth ≤ k) → PyData.depthAll (toDs xs) ≤ k
  | [], _ => Nat.zero_le _
  | x :: xs, h => by
    have e : toDs (x :: xs) = toD x :: toDs xs := rfl
    rw [e]
    unfold PyData.depthAll
    exact Nat.max_le.mpr ⟨h x List.mem_cons_self, depAll_of fun y hy => h y (List.mem_cons_of_mem _ hy)⟩
theorem TV.lay : ∀ {k : Nat} {x : PV}, TV k x → (toD x).canLay0 = true ∧ (toD x).depth ≤ k
  | 0, x, h => by
    cases x <;> first | exact h.elim | (simp only [toD, PyData.canLay0, PyData.depth]; first | exact ⟨rfl, Nat.le_refl _⟩ | exact ⟨h, Nat.le_refl _⟩)
  | k + 1, x, h => by
    cases x with
    | tup xs =>
      simp only [toD, PyData.canLay0, PyData.depth]
      exact ⟨canAll_of fun y hy => (TV.lay (h y hy)).1, Nat.succ_le_succ (depAll_of fun y hy => (TV.lay (h y hy)).2)⟩
    | lst xs =>
      simp only [toD, PyData.canLay0, PyData.depth]
      exact ⟨canAll_of fun y hy => (TV.lay (h y hy)).1, Nat.succ_le_succ (depAll_of fun y hy => (TV.lay (h y hy)).2)⟩
    | _ => first | exact h.elim | (simp only [toD, PyData.canLay0, PyData.depth]; first | exact ⟨rfl, Nat.zero_le _⟩ | exact ⟨h, Nat.zero_le _⟩)
theorem TV.shaped {k : Nat} {x : PV} (h : TV k x) (hk : k ≤ 64) : shapedP x = true := by
  have := h.lay
  exact Bool.and_eq_true_iff.mpr ⟨this.1, decide_eq_true (Nat.le_trans this.2 hk)⟩
theorem eqvAll_iff {p : PV → Prop} (hp : ∀ x, p x → ∀ y, (∃ k, TV k y) → (eqPV x y = true ↔ x = y)) : ∀ (xs ys : List PV), (∀ x ∈ xs, p x) → (∀ y ∈ ys, ∃ k, TV k y) → (PyData.eqvAll (toDs xs) (toDs ys) = true ↔ xs = ys)
  | [], [], _, _ => ⟨fun _ => rfl, fun _ => rfl⟩
  | [], y :: ys, _, _ => ⟨fun h => (nomatch (show false = true from h)), fun h => nomatch h⟩
  | x :: xs, [], _, _ => ⟨fun h => (nomatch (show false = true from h)), fun h => nomatch h⟩
  | x :: xs, y :: ys, h, g => by
    have ih := eqvAll_iff hp xs ys (fun z hz => h z (List.mem_cons_of_mem _ hz)) fun z hz => g z (List.mem_cons_of_mem _ hz)
    have e := hp x (h x List.mem_cons_self) y (g y List.mem_cons_self)
    show ((PyData.eqv (toD x) (toD y) && PyData.eqvAll (toDs xs) (toDs ys)) = true) ↔ _
    rw [Bool.and_eq_true, ih]
    unfold eqPV at e
    rw [e]
    exact ⟨fun ⟨a, b⟩ => by rw [a, b], fun a => by cases a; exact ⟨rfl, rfl⟩⟩
theorem TV.eqv : ∀ {k : Nat} {x : PV}, TV k x → ∀ y, (∃ j, TV j y) → (eqPV x y = true ↔ x = y)
  | 0, x, h, y, ⟨j, g⟩ => by
    unfold eqPV
    cases x <;> first | exact h.elim | (cases y <;> first | (cases j <;> exact g.elim) | (simp [toD, PyData.eqv]))
  | k + 1, x, h, y, ⟨j, g⟩ => by
    have ih : ∀ z : PV, TV k z → ∀ y, (∃ j, TV j y) → (eqPV z y = true ↔ z = y) := fun z hz y hy => TV.eqv hz y hy
    have sub : ∀ ys : List PV, (TV j (.tup ys) ∨ TV j (.lst ys)) → ∀ z ∈ ys, ∃ i, TV i z := fun ys q z hz => by
      cases j with
      | zero => rcases q with q | q <;> exact q.elim
      | succ j => rcases q with q | q <;> exact ⟨j, q z hz⟩
    cases x with
    | tup xs =>
      cases y with
      | tup ys =>
        show (PyData.eqvAll (toDs xs) (toDs ys) = true) ↔ _
        rw [eqvAll_iff ih xs ys h (sub ys (.inl g))]
        exact ⟨fun e => by rw [e], fun e => by cases e; rfl⟩
      | bl _ => cases j <;> exact g.elim
      | dic _ _ => cases j <;> exact g.elim
      | sq _ _ => cases j <;> exact g.elim
      | _ => unfold eqPV; simp [toD, PyData.eqv]
    | lst xs =>
      cases y with
      | lst ys =>
        show (PyData.eqvAll (toDs xs) (toDs ys) = true) ↔ _
        rw [eqvAll_iff ih xs ys h (sub ys (.inr g))]
        exact ⟨fun e => by rw [e], fun e => by cases e; rfl⟩
      | bl _ => cases j <;> exact g.elim
      | dic _ _ => cases j <;> exact g.elim
      | sq _ _ => cases j <;> exact g.elim
      | _ => unfold eqPV; simp [toD, PyData.eqv]
    | bl _ => exact h.elim
    | dic _ _ => exact h.elim
    | sq _ _ => exact h.elim
    | _ =>
      unfold eqPV
      cases y <;> first | (cases j <;> exact g.elim) | (simp [toD, PyData.eqv])
theorem eqP_TV {k j : Nat} {x y : PV} (hx : TV k x) (hy : TV j y) (hk : k ≤ 64) (hj : j ≤ 64) : eqP x y = some (false, .bl (eqPV x y)) := by
  unfold eqP
  rw [hx.shaped hk, hy.shaped hj]; rfl
theorem neP_TV {k j : Nat} {x y : PV} (hx : TV k x) (hy : TV j y) (hk : k ≤ 64) (hj : j ≤ 64) : neP x y = some (false, .bl (!eqPV x y)) := by
  unfold neP
  rw [hx.shaped hk, hy.shaped hj]; rfl
theorem eqPV_eq {k j : Nat} {x y : PV} (hx : TV k x) (hy : TV j y) {p : Prop} [Decidable p] (h : x = y ↔ p) : eqPV x y = decide p := by
  have := (hx.eqv y ⟨j, hy⟩).trans h
  cases e : eqPV x y with
  | true => rw [e] at this; exact (decide_eq_true (this.mp rfl)).symm
  | false => rw [e] at this; exact (decide_eq_false fun q => by have := this.mpr q; cases this).symm
theorem eqPV_self {k : Nat} {x : PV} (hx : TV k x) : eqPV x x = true := (hx.eqv x ⟨k, hx⟩).mpr rfl
theorem eqPV_ne {k j : Nat} {x y : PV} (hx : TV k x) (hy : TV j y) (h : x ≠ y) : eqPV x y = false := by
  cases e : eqPV x y with
  | false => rfl
  | true => exact absurd ((hx.eqv y ⟨j, hy⟩).mp e) h

/-! ### comprehensions -/
section
variable {fi : M (List PV)} {vs : List Nat} {h : PV → M Unit} {ft : M Bool} {fe : M PV} {ρ ρ1 ρ2 ρ3 : Env} {xs ys : List PV}
theorem lcM_run (hi : fi ρ = some (xs, ρ1)) (hl : lcLoop vs h ft fe xs (clear vs ρ1) = some (ys, ρ2)) (hr : restore ρ1 vs ρ2 = ρ3) (hn : ys.length ≤ 100000) : lcM fi vs h ft fe ρ = some ((true, .lst ys), ρ3) := by
  unfold lcM
  refine bind_of hi (bind_of (within_run rfl hl hr) ?_)
  rw [fits_of hn]; rfl
theorem lcM_pure (p : PV → Bool) (g : PV → PV) (hi : fi ρ = some (xs, ρ1)) (hc : clear vs ρ1 = ρ1) (hr : restore ρ1 vs ρ1 = ρ1)
    (hs : ∀ x ∈ xs, ∃ ρ2, (h x >>= fun _ => ft) ρ1 = some (p x, ρ2) ∧ (p x = true → ∃ ρ3, fe ρ2 = some (g x, ρ3) ∧ clear vs ρ3 = ρ1) ∧ (p x = false → clear vs ρ2 = ρ1)) (hn : xs.length ≤ 100000) :
    lcM fi vs h ft fe ρ = some ((true, .lst ((xs.filter p).map g)), ρ1) :=
  lcM_run hi (by rw [hc]; exact lcLoop_pure p g xs hs) hr (by rw [List.length_map]; exact Nat.le_trans (List.length_filter_le _ _) hn)
theorem lcM_map (g : PV → PV) (hi : fi ρ = some (xs, ρ1)) (hc : clear vs ρ1 = ρ1) (hr : restore ρ1 vs ρ1 = ρ1)
    (hs : ∀ x ∈ xs, ∃ ρ2, (h x >>= fun _ => ft) ρ1 = some (true, ρ2) ∧ ∃ ρ3, fe ρ2 = some (g x, ρ3) ∧ clear vs ρ3 = ρ1) (hn : xs.length ≤ 100000) :
    lcM fi vs h ft fe ρ = some ((true, .lst (xs.map g)), ρ1) := by
  have := lcM_pure (ft := ft) (fe := fe) (h := h) (fun _ => true) g hi hc hr (fun x hx => by
    obtain ⟨ρ2, e, k⟩ := hs x hx
    exact ⟨ρ2, e, fun _ => k, fun z => nomatch z⟩) hn
  rw [List.filter_eq_self.mpr (fun _ _ => rfl)] at this
  exact this
end

/-! ### tuples told several times -/
theorem mulP_tup {a : List PV} {n : Nat} (h : 1 ≤ n) (h2 : n * a.length ≤ 16777216) (h3 : n ≤ 16777216) : mulP (.tup a) (.int n) = some (false, .tup (List.replicate n a).flatten) := by
  show (if (a.isEmpty || (n : Int) == 1) = true then MC.when (decide (-(2 ^ 63) ≤ (n : Int) ∧ (n : Int) < 2 ^ 63)) (fl (.tup a)) else MC.when (decide (2 ≤ (n : Int) ∧ (n : Int).toNat * a.length ≤ 16777216)) (fl (.tup (List.replicate (n : Int).toNat a).flatten))) = _
  have e1 : decide (-(2 ^ 63) ≤ (n : Int) ∧ (n : Int) < 2 ^ 63) = true := decide_eq_true ⟨by omega, by omega⟩
  by_cases c : (a.isEmpty || (n : Int) == 1) = true
  · rw [if_pos c, e1]
    show fl (.tup a) = _
    rcases Bool.or_eq_true_iff.mp c with c | c
    · have : a = [] := List.isEmpty_iff.mp c
      subst this
      have : (List.replicate n ([] : List PV)).flatten = [] := List.flatten_eq_nil_iff.mpr fun l hl => (List.mem_replicate.mp hl).2
      rw [this]; rfl
    · have c : (n : Int) = 1 := by simpa using c
      have : n = 1 := by omega
      subst this; simp [fl]
  · rw [if_neg c]
    have c1 : ¬ (n : Int) = 1 := fun z => c (by simp [z])
    have e2 : decide (2 ≤ (n : Int) ∧ (n : Int).toNat * a.length ≤ 16777216) = true := decide_eq_true ⟨by omega, by rw [Int.toNat_natCast]; exact h2⟩
    rw [e2, Int.toNat_natCast]; rfl
theorem flat_len {α : Type} (a : List α) : ∀ n : Nat, (List.replicate n a).flatten.length = n * a.length
  | 0 => by simp
  | n + 1 => by rw [List.replicate_succ, List.flatten_cons, List.length_append, flat_len a n, Nat.succ_mul]; omega
theorem flat_get {α : Type} (a : List α) : ∀ (n k : Nat), k < n * a.length → (List.replicate n a).flatten[k]? = a[k % a.length]?
  | 0, k, h => by simp at h
  | n + 1, k, h => by
    rw [List.replicate_succ, List.flatten_cons]
    by_cases c : k < a.length
    · rw [List.getElem?_append_left c, Nat.mod_eq_of_lt c]
    · have hp : 0 < a.length := by
        rcases Nat.eq_zero_or_pos a.length with z | z
        · rw [z] at h; simp at h
        · exact z
      rw [List.getElem?_append_right (by omega), flat_get a n (k - a.length) (by rw [Nat.succ_mul] at h; omega), Nat.mod_eq_sub_mod (show k ≥ a.length by omega)]
theorem flat_map {α β : Type} (f : α → β) (a : List α) : ∀ n : Nat, (List.replicate n (a.map f)).flatten = ((List.replicate n a).flatten).map f
  | 0 => rfl
  | n + 1 => by rw [List.replicate_succ, List.replicate_succ, List.flatten_cons, List.flatten_cons, List.map_append, flat_map f a n]

/-! ### slices -/
section
variable {xs : List PV} {n : Nat}
theorem cut_to : cutP xs none (some (n : Int)) = xs.take n := by
  unfold cutP
  rw [HT.sIx_none, HT.sIx_nat, List.drop_zero, Nat.sub_zero, take_min_len]
theorem cut_from : cutP xs (some (n : Int)) none = xs.drop n := by
  unfold cutP
  rw [HT.sIx_none, HT.sIx_nat]
  rw [List.take_of_length_le (by rw [List.length_drop]; exact Nat.le_refl _)]
  by_cases hn : n ≤ xs.length
  · rw [Nat.min_eq_left hn]
  · rw [Nat.min_eq_right (by omega), List.drop_length, List.drop_eq_nil_of_le (by omega)]
theorem slP_tto : slP (.tup xs) none (some (n : Int)) = some (false, .tup (xs.take n)) := by
  show some (false, PV.tup (cutP xs none (some (n : Int)))) = _
  rw [cut_to]
theorem slP_tfrom : slP (.tup xs) (some (n : Int)) none = some (false, .tup (xs.drop n)) := by
  show some (false, PV.tup (cutP xs (some (n : Int)) none)) = _
  rw [cut_from]
theorem slP_lto : slP (.lst xs) none (some (n : Int)) = some (true, .lst (xs.take n)) := by
  show some (true, PV.lst (cutP xs none (some (n : Int)))) = _
  rw [cut_to]
theorem slP_lfrom : slP (.lst xs) (some (n : Int)) none = some (true, .lst (xs.drop n)) := by
  show some (true, PV.lst (cutP xs (some (n : Int)) none)) = _
  rw [cut_from]
end
theorem blsOf_map {α : Type} (p : α → Bool) : ∀ xs : List α, blsOf (xs.map fun x => PV.bl (p x)) = some (xs.map p)
  | [] => rfl
  | x :: xs => by show (blsOf (xs.map fun x => PV.bl (p x))).map _ = _; rw [blsOf_map p xs]; rfl
theorem allP_map {α : Type} (p : α → Bool) (xs : List α) : allP (.lst (xs.map fun x => PV.bl (p x))) = some (false, .bl (xs.all p)) := by
  show (blsOf _).bind _ = _
  rw [blsOf_map]
  show some (false, PV.bl ((xs.map p).all id)) = _
  rw [List.all_map]; rfl
theorem anyP_map {α : Type} (p : α → Bool) (xs : List α) : anyP (.lst (xs.map fun x => PV.bl (p x))) = some (false, .bl (xs.any p)) := by
  show (blsOf _).bind _ = _
  rw [blsOf_map]
  show some (false, PV.bl ((xs.map p).any id)) = _
  rw [List.any_map]; rfl
theorem rangeL_mem {lo hi : Int} {x : PV} (h : x ∈ rangeL lo hi) : ∃ i : Int, x = .int i ∧ lo ≤ i ∧ i < hi := by
  unfold rangeL at h
  obtain ⟨k, hk, rfl⟩ := List.mem_map.mp h
  have := List.mem_range.mp hk
  exact ⟨_, rfl, by omega, by omega⟩
theorem rangeL_len (lo hi : Int) : (rangeL lo hi).length = (hi - lo).toNat := by simp [rangeL]
theorem rangeL_ints (lo hi : Int) : rangeL lo hi = ((List.range (hi - lo).toNat).map fun i => lo + (i : Nat)).map PV.int := by
  unfold rangeL; rw [List.map_map]; rfl
end MC
namespace MC
open PySem
/-! ### filtered ranges -/
def rgI (lo : Int) (n : Nat) : List Int := (List.range n).map fun i : Nat => lo + (i : Int)
theorem rangeL_rgI (lo hi : Int) : rangeL lo hi = (rgI lo (hi - lo).toNat).map PV.int := rangeL_ints lo hi
theorem rgI_len (lo : Int) (n : Nat) : (rgI lo n).length = n := by simp [rgI]
theorem rgI_mem {lo : Int} {n : Nat} {i : Int} (h : i ∈ rgI lo n) : lo ≤ i ∧ i < lo + n := by
  obtain ⟨k, hk, rfl⟩ := List.mem_map.mp h
  have := List.mem_range.mp hk
  omega
theorem mem_rgI {lo : Int} {n : Nat} {i : Int} (h1 : lo ≤ i) (h2 : i < lo + n) : i ∈ rgI lo n := List.mem_map.mpr ⟨(i - lo).toNat, List.mem_range.mpr (by omega), by omega⟩
theorem rgI_succ (lo : Int) (n : Nat) : rgI lo (n + 1) = rgI lo n ++ [lo + (n : Int)] := by unfold rgI; rw [List.range_succ, List.map_append]; rfl
theorem rgI_get {lo : Int} {n i : Nat} (h : i < n) : (rgI lo n)[i]? = some (lo + (i : Int)) := by unfold rgI; rw [List.getElem?_map, List.getElem?_range h]; rfl
def onI (q : Int → Bool) : PV → Bool
  | .int i => q i
  | _ => false
theorem filter_ints (q : Int → Bool) : ∀ xs : List Int, (xs.map PV.int).filter (onI q) = (xs.filter q).map PV.int
  | [] => rfl
  | x :: xs => by
    rw [List.map_cons]
    by_cases h : q x = true
    · rw [List.filter_cons_of_pos (show onI q (.int x) = true from h), List.filter_cons_of_pos h, List.map_cons, filter_ints q xs]
    · rw [List.filter_cons_of_neg (show ¬ onI q (.int x) = true from h), List.filter_cons_of_neg h, filter_ints q xs]
theorem first_spec (p : Int → Bool) (lo : Int) : ∀ n : Nat, ((∀ i, lo ≤ i → i < lo + n → p i = false) ∧ (rgI lo n).filter p = []) ∨
    ∃ a, lo ≤ a ∧ a < lo + n ∧ p a = true ∧ (∀ i, lo ≤ i → i < a → p i = false) ∧ ((rgI lo n).filter p)[0]? = some a ∧ (rgI lo n).filter p ≠ []
  | 0 => .inl ⟨fun i h1 h2 => by omega, rfl⟩
  | n + 1 => by
    rw [rgI_succ, List.filter_append]
    rcases first_spec p lo n with ⟨h1, h2⟩ | ⟨a, h1, h2, h3, h4, h5, h6⟩
    · by_cases c : p (lo + n) = true
      · refine .inr ⟨lo + n, by omega, by omega, c, fun i a1 a2 => h1 i a1 (by omega), ?_, ?_⟩
        · rw [h2, List.filter_cons_of_pos c]; rfl
        · rw [h2, List.filter_cons_of_pos c]; exact List.cons_ne_nil _ _
      · refine .inl ⟨fun i a1 a2 => ?_, by rw [h2, List.filter_cons_of_neg c]; rfl⟩
        by_cases e : i = lo + n
        · subst e; simpa using c
        · exact h1 i a1 (by omega)
    · refine .inr ⟨a, h1, by omega, h3, h4, ?_, fun z => h6 (List.append_eq_nil_iff.mp z).1⟩
      rw [List.getElem?_append_left (List.length_pos_iff.mpr h6), h5]
theorem last_spec (p : Int → Bool) (lo : Int) : ∀ n : Nat, ((∀ i, lo ≤ i → i < lo + n → p i = false) ∧ (rgI lo n).filter p = []) ∨
    ∃ a, lo ≤ a ∧ a < lo + n ∧ p a = true ∧ (∀ i, a < i → i < lo + n → p i = false) ∧ ((rgI lo n).filter p).getLast? = some a ∧ (rgI lo n).filter p ≠ []
  | 0 => .inl ⟨fun i h1 h2 => by omega, rfl⟩
  | n + 1 => by
    rw [rgI_succ, List.filter_append]
    by_cases c : p (lo + n) = true
    · refine .inr ⟨lo + n, by omega, by omega, c, fun i a1 a2 => by omega, ?_, ?_⟩
      · rw [List.filter_cons_of_pos c]; simp
      · rw [List.filter_cons_of_pos c]; exact fun z => nomatch (List.append_eq_nil_iff.mp z).2
    · rw [List.filter_cons_of_neg c]
      rw [List.filter_nil, List.append_nil]
      rcases last_spec p lo n with ⟨h1, h2⟩ | ⟨a, h1, h2, h3, h4, h5, h6⟩
      · refine .inl ⟨fun i a1 a2 => ?_, h2⟩
        by_cases e : i = lo + n
        · subst e; simpa using c
        · exact h1 i a1 (by omega)
      · refine .inr ⟨a, h1, by omega, h3, fun i a1 a2 => ?_, h5, h6⟩
        by_cases e : i = lo + n
        · subst e; simpa using c
        · exact h4 i a1 (by omega)
theorem eqP_bb (a b : Bool) : eqP (.bl a) (.bl b) = some (false, .bl (decide (a = b))) := by cases a <;> cases b <;> rfl
theorem neP_bb (a b : Bool) : neP (.bl a) (.bl b) = some (false, .bl (!decide (a = b))) := by cases a <;> cases b <;> rfl
theorem pure_andT (f : M Bool) (ρ : Env) : (if true = true then f else pure false : M Bool) ρ = f ρ := rfl
end MC
namespace MC
open PySem
/-! ### a while that counts -/
theorem while_up {c : M Bool} {f : M Fl} (E : Nat → Env) {t : Nat} (ht : c (E t) = some (false, E t)) : ∀ (k a : Nat), a + k = t → (∀ i, a ≤ i → i < t → c (E i) = some (true, E i) ∧ f (E i) = some (.nx, E (i + 1))) → whileM c f (E a) = some (.nx, E t)
  | 0, a, e, _ => by
    have : a = t := by omega
    subst this
    exact whileM_false ht
  | k + 1, a, e, h => by
    obtain ⟨h1, h2⟩ := h a (Nat.le_refl _) (by omega)
    exact whileM_true h1 h2 (while_up E ht k (a + 1) (by omega) fun i a1 a2 => h i (by omega) a2)
end MC

namespace MC
open PySem L2
theorem isi_of {T U : String} {x : PV} {b : Bool} (hu : tyName x = U) (hd : U ≠ "dict") (h : L2.kitB U T = some b) : isiM T x = some (false, .bl b) := by
  unfold isiM isiP
  rw [hu, if_neg hd, h]; rfl
theorem isi_int_int (i : Int) : isiM "int" (.int i) = some (false, .bl true) := isi_of (U := "int") rfl (by decide) (by decide +kernel)
theorem isi_int_bool (i : Int) : isiM "bool" (.int i) = some (false, .bl false) := isi_of (U := "int") rfl (by decide) (by decide +kernel)
theorem isi_int_str (i : Int) : isiM "str" (.int i) = some (false, .bl false) := isi_of (U := "int") rfl (by decide) (by decide +kernel)
theorem isi_int_tuple (i : Int) : isiM "tuple" (.int i) = some (false, .bl false) := isi_of (U := "int") rfl (by decide) (by decide +kernel)
theorem isi_int_list (i : Int) : isiM "list" (.int i) = some (false, .bl false) := isi_of (U := "int") rfl (by decide) (by decide +kernel)
theorem isi_str_int (s : Str) : isiM "int" (.str s) = some (false, .bl false) := isi_of (U := "str") rfl (by decide) (by decide +kernel)
theorem isi_str_bool (s : Str) : isiM "bool" (.str s) = some (false, .bl false) := isi_of (U := "str") rfl (by decide) (by decide +kernel)
theorem isi_str_str (s : Str) : isiM "str" (.str s) = some (false, .bl true) := isi_of (U := "str") rfl (by decide) (by decide +kernel)
theorem isi_str_tuple (s : Str) : isiM "tuple" (.str s) = some (false, .bl false) := isi_of (U := "str") rfl (by decide) (by decide +kernel)
theorem isi_str_list (s : Str) : isiM "list" (.str s) = some (false, .bl false) := isi_of (U := "str") rfl (by decide) (by decide +kernel)
theorem isi_tuple_int (xs : List PV) : isiM "int" (.tup xs) = some (false, .bl false) := isi_of (U := "tuple") rfl (by decide) (by decide +kernel)
theorem isi_tuple_bool (xs : List PV) : isiM "bool" (.tup xs) = some (false, .bl false) := isi_of (U := "tuple") rfl (by decide) (by decide +kernel)
theorem isi_tuple_str (xs : List PV) : isiM "str" (.tup xs) = some (false, .bl false) := isi_of (U := "tuple") rfl (by decide) (by decide +kernel)
theorem isi_tuple_tuple (xs : List PV) : isiM "tuple" (.tup xs) = some (false, .bl true) := isi_of (U := "tuple") rfl (by decide) (by decide +kernel)
theorem isi_tuple_list (xs : List PV) : isiM "list" (.tup xs) = some (false, .bl false) := isi_of (U := "tuple") rfl (by decide) (by decide +kernel)
theorem isi_list_int (xs : List PV) : isiM "int" (.lst xs) = some (false, .bl false) := isi_of (U := "list") rfl (by decide) (by decide +kernel)
theorem isi_list_bool (xs : List PV) : isiM "bool" (.lst xs) = some (false, .bl false) := isi_of (U := "list") rfl (by decide) (by decide +kernel)
theorem isi_list_str (xs : List PV) : isiM "str" (.lst xs) = some (false, .bl false) := isi_of (U := "list") rfl (by decide) (by decide +kernel)
theorem isi_list_tuple (xs : List PV) : isiM "tuple" (.lst xs) = some (false, .bl false) := isi_of (U := "list") rfl (by decide) (by decide +kernel)
theorem isi_list_list (xs : List PV) : isiM "list" (.lst xs) = some (false, .bl true) := isi_of (U := "list") rfl (by decide) (by decide +kernel)
theorem isi_NoneType_int  : isiM "int" .non = some (false, .bl false) := isi_of (U := "NoneType") rfl (by decide) (by decide +kernel)
theorem isi_NoneType_bool  : isiM "bool" .non = some (false, .bl false) := isi_of (U := "NoneType") rfl (by decide) (by decide +kernel)
theorem isi_NoneType_str  : isiM "str" .non = some (false, .bl false) := isi_of (U := "NoneType") rfl (by decide) (by decide +kernel)
theorem isi_NoneType_tuple  : isiM "tuple" .non = some (false, .bl false) := isi_of (U := "NoneType") rfl (by decide) (by decide +kernel)
theorem isi_NoneType_list  : isiM "list" .non = some (false, .bl false) := isi_of (U := "NoneType") rfl (by decide) (by decide +kernel)
theorem isi_bool_int (b : Bool) : isiM "int" (.bl b) = some (false, .bl true) := isi_of (U := "bool") rfl (by decide) (by decide +kernel)
theorem isi_bool_bool (b : Bool) : isiM "bool" (.bl b) = some (false, .bl true) := isi_of (U := "bool") rfl (by decide) (by decide +kernel)
theorem isi_bool_str (b : Bool) : isiM "str" (.bl b) = some (false, .bl false) := isi_of (U := "bool") rfl (by decide) (by decide +kernel)
theorem isi_bool_tuple (b : Bool) : isiM "tuple" (.bl b) = some (false, .bl false) := isi_of (U := "bool") rfl (by decide) (by decide +kernel)
theorem isi_bool_list (b : Bool) : isiM "list" (.bl b) = some (false, .bl false) := isi_of (U := "bool") rfl (by decide) (by decide +kernel)
end MC
set_option Elab.async false
set_option linter.all false
set_option maxRecDepth 100000
set_option maxHeartbeats 4000000
namespace MC.Law
open PySem PySem.Spec L2
/-! what the defs compute -/
noncomputable def lc1__law_begin : M OV := (lcM (itemsM (take 0)) [1] (put 1 false) (pure true) (asF (un1 (look 1) intP)))
noncomputable def sem__law_begin : M Fl := (retM (lstM (consM (asF lc1__law_begin) (consM (pure (.int 0)) (consM (pure (.int 0)) (consM (pure (.int 7)) (consM (pure (.int 0)) (pure []))))))))
noncomputable def F__law_begin : Fn := fnOf 1 2 [] sem__law_begin
noncomputable def vx1__law_draw : M PV := (asF (bin2 (asF (un1 (asF (bin2 (asF (bin2 (asF (bin2 (asF (bin2 (asF (bin2v 0 (pure (.int 3)) ixP)) (pure (.int 48271)) mulP)) (asF (bin2 (asF (bin2 (asF (un1 (look 3) intP)) (pure (.int 2147483629)) modP)) (pure (.int 16807)) mulP)) addP)) (asF (bin2 (asF (bin2v 0 (pure (.int 1)) ixP)) (pure (.int 69621)) mulP)) addP)) (pure (.int 11)) addP)) intP)) (pure (.int 2147483647)) modP))
noncomputable def sem__law_draw : M Fl := (seqM (ifM (asT (bin2 (asF (bin2v 0 (pure (.int 2)) ixP)) (pure (.int 0)) gtP)) (seqM (setM 2 (bin2v 0 (pure (.int 2)) ixP))
    (seqM (setIxM 0 (asF (bin2v 2 (look 1) fdivP)) (pure (.int 2)))
    (retM (bin2 (asF (un1 (look 2) intP)) (look 1) modP)))) (pure .nx))
    (seqM (setM 3 ((pure (.int 0)) >>= fun v => pure (false, v)))
    (seqM (ifM (asT (bin2 (asF (bin2v 0 (pure (.int 1)) ixP)) (asF (un1 (asF (bin2v 0 (pure (.int 0)) ixP)) lenP)) ltP)) (seqM (setM 4 (bin2 (asF (bin2v 0 (pure (.int 0)) ixP)) (asF (bin2v 0 (pure (.int 1)) ixP)) ixP))
    (setM 3 (bin2 (asF (bin2 (pure (.int 2)) (asF (un1 (look 4) absP)) mulP)) (asF (un1 (asF (bin2v 4 (pure (.int 0)) ltP)) intP)) addP))) (pure .nx))
    (seqM (augIxM 0 (pure (.int 1)) (pure (.int 1)) iaddP)
    (seqM (ifM (asT (bin2v 3 (asF (bin2 (pure (.int 2)) (asF (bin2 (pure (.int 10)) (pure (.int 18)) powP)) mulP)) geP)) (seqM (setM 2 (bin2 (asF (un1 (asF (bin2v 3 (pure (.int 2)) fdivP)) intP)) (asF (bin2 (pure (.int 1)) (pure (.int 6000)) shlP)) modP))
    (seqM (setIxM 0 (asF (bin2v 2 (look 1) fdivP)) (pure (.int 2)))
    (retM (bin2 (asF (un1 (look 2) intP)) (look 1) modP)))) (pure .nx))
    (seqM (setIxM 0 vx1__law_draw (pure (.int 3)))
    (retM (bin2 (asF (un1 (asF (bin2 (asF (bin2v 0 (pure (.int 3)) ixP)) (pure (.int 16)) fdivP)) intP)) (look 1) modP))))))))
noncomputable def F__law_draw : Fn := fnOf 2 5 [0] sem__law_draw
noncomputable def sem__law_pop : M Fl := (retM (mutM 1 (consM (asF (callM [0] F__law_draw (slotM 0 (valM (asF (un1 (look 1) lenP)) (pure []))))) (pure [])) popP))
noncomputable def F__law_pop : Fn := fnOf 2 2 [0, 1] sem__law_pop
noncomputable def bd1__law_alphabet : M Fl := (dropM (mutM 3 (consM (asF (callM [0, 1] F__law_pop (slotM 0 (slotM 2 (pure []))))) (pure [])) appendP))
noncomputable def fo1__law_alphabet : M Fl := ((range1M (look 1)) >>= forM (put 4 false) bd1__law_alphabet)
noncomputable def sem__law_alphabet : M Fl := (seqM (setM 2 (un1 (pure (.str "abcdefghijklmnopqrstuvwxyz")) listP))
    (seqM (setM 3 (lstM (pure [])))
    (seqM fo1__law_alphabet
    (retM (strM (pure (.str "")) (consM (asF (un1 (look 3) sorted2P)) (pure [])) joinP)))))
noncomputable def F__law_alphabet : Fn := fnOf 2 5 [0] sem__law_alphabet
noncomputable def bd1__law_cuts : M Fl := (dropM (mutM 4 (consM (asF (bin2v 5 (asF (tupM (consM (take 7) (pure [])))) addP)) (pure [])) appendP))
noncomputable def fo1__law_cuts : M Fl := ((range2M (take 6) (asF (bin2v 0 (pure (.int 1)) addP))) >>= forM (put 7 false) bd1__law_cuts)
noncomputable def bd2__law_cuts : M Fl := (seqM (setM 6 (ifM (asT (bin2 (asF (un1 (look 5) lenP)) (pure (.int 0)) gtP)) (bin2v 5 (asF (un1 (pure (.int 1)) negP)) ixP) ((pure (.int 0)) >>= fun v => pure (false, v))))
    fo1__law_cuts)
noncomputable def fo2__law_cuts : M Fl := ((itemsM (take 2)) >>= forM (put 5 false) bd2__law_cuts)
noncomputable def bd3__law_cuts : M Fl := (seqM (setM 4 (lstM (pure [])))
    (seqM fo2__law_cuts
    (setM 2 ((take 4) >>= fun v => pure (false, v)))))
noncomputable def fo3__law_cuts : M Fl := ((range1M (asF (bin2v 1 (pure (.int 1)) subP))) >>= forM (put 3 false) bd3__law_cuts)
noncomputable def sem__law_cuts : M Fl := (seqM (setM 2 (lstM (consM (asF (tupM (pure []))) (pure []))))
    (seqM fo3__law_cuts
    (giveM 2)))
noncomputable def F__law_cuts : Fn := fnOf 2 8 [] sem__law_cuts
noncomputable def lc1__law_order : M OV := (lcM (itemsM (take 0)) [1] (put 1 false) (pure true) (asF (un1 (look 1) lenP)))
noncomputable def lc2__law_order : M OV := (lcM (itemsM (take 0)) [1] (put 1 false) (pure true) (asF (tupM (consM (asF (un1 (look 1) lenP)) (consM (take 1) (pure []))))))
noncomputable def sem__law_order : M Fl := (retM (tupM (consM (asF (un1 (asF lc1__law_order) sumP)) (consM (asF lc2__law_order) (pure [])))))
noncomputable def F__law_order : Fn := fnOf 1 2 [] sem__law_order
noncomputable def bd1__law_words : M Fl := (dropM (mutM 5 (consM (asF (bin2v 6 (look 7) addP)) (pure [])) appendP))
noncomputable def fo1__law_words : M Fl := ((itemsM (take 0)) >>= forM (put 7 false) bd1__law_words)
noncomputable def bd2__law_words : M Fl := fo1__law_words
noncomputable def fo2__law_words : M Fl := ((itemsM (take 2)) >>= forM (put 6 false) bd2__law_words)
noncomputable def bd3__law_words : M Fl := (seqM (setM 5 (lstM (pure [])))
    (seqM fo2__law_words
    (seqM (setM 2 ((take 5) >>= fun v => pure (false, v)))
    (setM 3 (bin2v 3 (look 2) addP)))))
noncomputable def fo3__law_words : M Fl := ((range1M (look 1)) >>= forM (put 4 false) bd3__law_words)
noncomputable def sem__law_words : M Fl := (seqM (setM 2 (lstM (consM (pure (.str "")) (pure []))))
    (seqM (setM 3 (lstM (consM (pure (.str "")) (pure []))))
    (seqM fo3__law_words
    (giveM 3))))
noncomputable def F__law_words : Fn := fnOf 2 8 [] sem__law_words
noncomputable def bd1__law_cut : M Fl := (seqM (setM 2 (bin2v 2 (asF (tupM (consM (asF (slMv 0 (asInt (look 3)) (asInt (look 4)) slP)) (pure [])))) addP))
    (setM 3 ((take 4) >>= fun v => pure (false, v))))
noncomputable def fo1__law_cut : M Fl := ((itemsM (take 1)) >>= forM (put 4 false) bd1__law_cut)
noncomputable def sem__law_cut : M Fl := (seqM (setM 2 (tupM (pure [])))
    (seqM (setM 3 ((pure (.int 0)) >>= fun v => pure (false, v)))
    (seqM fo1__law_cut
    (retM (bin2v 2 (asF (tupM (consM (asF (slMv 0 (asInt (look 3)) (pure none) slP)) (pure [])))) addP)))))
noncomputable def F__law_cut : Fn := fnOf 2 5 [] sem__law_cut
noncomputable def lc1__law_all_tuples : M OV := (lcM (itemsM (asF (callM [] F__law_words (slotM 0 (slotM 2 (pure [])))))) [6] (put 6 false) (asT (bin2 (asF (un1 (look 6) lenP)) (look 2) eqP)) (take 6))
noncomputable def bd1__law_all_tuples : M Fl := (dropM (mutM 4 (consM (asF (callM [] F__law_cut (slotM 6 (slotM 5 (pure []))))) (pure [])) appendP))
noncomputable def fo1__law_all_tuples : M Fl := ((itemsM (take 3)) >>= forM (put 6 false) bd1__law_all_tuples)
noncomputable def bd2__law_all_tuples : M Fl := fo1__law_all_tuples
noncomputable def fo2__law_all_tuples : M Fl := ((itemsM (asF (callM [] F__law_cuts (slotM 2 (slotM 1 (pure [])))))) >>= forM (put 5 false) bd2__law_all_tuples)
noncomputable def sem__law_all_tuples : M Fl := (seqM (ifM (asT (bin2v 1 (pure (.int 0)) eqP)) (retM (ifM (asT (bin2v 2 (pure (.int 0)) eqP)) (lstM (consM (asF (tupM (pure []))) (pure []))) (lstM (pure [])))) (pure .nx))
    (seqM (setM 3 lc1__law_all_tuples)
    (seqM (setM 4 (lstM (pure [])))
    (seqM fo2__law_all_tuples
    (retM (un1 (look 4) (sortKeyP F__law_order)))))))
noncomputable def F__law_all_tuples : Fn := fnOf 3 7 [] sem__law_all_tuples
noncomputable def bd1__law_word : M Fl := (setM 3 (bin2v 3 (asF (bin2v 1 (asF (callM [0] F__law_draw (slotM 0 (valM (asF (un1 (look 1) lenP)) (pure []))))) ixP)) addP))
noncomputable def fo1__law_word : M Fl := ((range1M (asF (callM [0] F__law_draw (slotM 0 (valM (asF (bin2v 2 (pure (.int 1)) addP)) (pure [])))))) >>= forM (put 4 false) bd1__law_word)
noncomputable def sem__law_word : M Fl := (seqM (setM 3 ((pure (.str "")) >>= fun v => pure (false, v)))
    (seqM fo1__law_word
    (giveM 3)))
noncomputable def F__law_word : Fn := fnOf 3 5 [0] sem__law_word
noncomputable def sem__law_pick : M Fl := (retM (bin2v 1 (asF (callM [0] F__law_draw (slotM 0 (valM (asF (un1 (look 1) lenP)) (pure []))))) ixP))
noncomputable def F__law_pick : Fn := fnOf 2 2 [0] sem__law_pick
noncomputable def bd1__law_pairs : M Fl := (seqM (setM 4 (callM [0] F__law_word (slotM 0 (slotM 1 (valM (pure (.int 5)) (pure []))))))
    (seqM (setM 5 (callM [0] F__law_word (slotM 0 (slotM 1 (valM (pure (.int 5)) (pure []))))))
    (seqM (setM 6 (callM [0] F__law_draw (slotM 0 (valM (pure (.int 4)) (pure [])))))
    (seqM (ifM (asT (bin2v 6 (pure (.int 0)) eqP)) (setM 5 (bin2v 4 (look 5) addP)) (ifM (asT (bin2v 6 (pure (.int 1)) eqP)) (setM 5 ((take 4) >>= fun v => pure (false, v))) (ifM (andM (asT (bin2v 6 (pure (.int 2)) eqP)) (asT (bin2 (asF (un1 (look 4) lenP)) (pure (.int 0)) gtP))) (seqM (setM 7 (callM [0] F__law_draw (slotM 0 (valM (asF (un1 (look 4) lenP)) (pure [])))))
    (setM 5 (bin2 (asF (bin2 (asF (slMv 4 (pure none) (asInt (look 7)) slP)) (asF (callM [0] F__law_pick (slotM 0 (slotM 1 (pure []))))) addP)) (asF (slMv 4 (asInt (asF (bin2v 7 (pure (.int 1)) addP))) (pure none) slP)) addP))) (pure .nx))))
    (seqM (dropM (mutM 2 (consM (asF (tupM (consM (take 4) (consM (take 5) (pure []))))) (pure [])) appendP))
    (dropM (mutM 2 (consM (asF (tupM (consM (take 5) (consM (take 4) (pure []))))) (pure [])) appendP)))))))
noncomputable def fo1__law_pairs : M Fl := ((range1M (pure (.int 6))) >>= forM (put 3 false) bd1__law_pairs)
noncomputable def sem__law_pairs : M Fl := (seqM (setM 2 (lstM (pure [])))
    (seqM fo1__law_pairs
    (giveM 2)))
noncomputable def F__law_pairs : Fn := fnOf 2 8 [0] sem__law_pairs
noncomputable def sem_word_key : M Fl := (retM (tupM (consM (asF (un1 (look 0) lenP)) (consM (take 0) (pure [])))))
noncomputable def F_word_key : Fn := fnOf 1 1 [] sem_word_key
noncomputable def lc1_model_key : M OV := (lcM (itemsM (take 0)) [1] (put 1 false) (pure true) (asF (un1 (look 1) lenP)))
noncomputable def lc2_model_key : M OV := (lcM (itemsM (take 0)) [1] (put 1 false) (pure true) (asF (callM [] F_word_key (slotM 1 (pure [])))))
noncomputable def sem_model_key : M Fl := (retM (tupM (consM (asF (un1 (asF lc1_model_key) sumP)) (consM (asF (un1 (asF lc2_model_key) tupleP)) (pure [])))))
noncomputable def F_model_key : Fn := fnOf 1 2 [] sem_model_key
noncomputable def bd1__law_sorting_stands : M Fl := (dropM (mutM 2 (consM (asF (callM [0] F__law_pick (slotM 0 (slotM 1 (pure []))))) (pure [])) appendP))
noncomputable def fo1__law_sorting_stands : M Fl := ((range1M (asF (bin2 (pure (.int 1)) (asF (callM [0] F__law_draw (slotM 0 (valM (pure (.int 24)) (pure []))))) addP))) >>= forM (put 3 false) bd1__law_sorting_stands)
noncomputable def bd2__law_sorting_stands : M Fl := (ifM (asT (bin2 (asF (un1 (look 5) (sortKeyP F_model_key))) (look 4) neP)) (retM ((pure (.bl false)) >>= fun v => pure (false, v))) (pure .nx))
noncomputable def fo2__law_sorting_stands : M Fl := ((itemsM (asF (lstM (consM (asF (un1 (look 2) listP)) (consM (asF (un1 (look 2) listRevP)) (consM (asF (un1 (look 4) listRevP)) (pure []))))))) >>= forM (put 5 false) bd2__law_sorting_stands)
noncomputable def sem__law_sorting_stands : M Fl := (seqM (ifM (asT (bin2 (asF (un1 (look 1) lenP)) (pure (.int 0)) eqP)) (retM ((pure (.bl true)) >>= fun v => pure (false, v))) (pure .nx))
    (seqM (setM 2 (lstM (pure [])))
    (seqM fo1__law_sorting_stands
    (seqM (setM 4 (un1 (look 2) (sortKeyP F__law_order)))
    (seqM fo2__law_sorting_stands
    (retM ((pure (.bl true)) >>= fun v => pure (false, v))))))))
noncomputable def F__law_sorting_stands : Fn := fnOf 2 6 [0] sem__law_sorting_stands
noncomputable def lc1_words_of_length : M OV := (lc2M (itemsM (take 2)) [4, 5] [5] (put 4 false) (pure true) (itemsM (take 0)) (put 5 false) (pure true) (asF (bin2v 4 (look 5) addP)))
noncomputable def bd1_words_of_length : M Fl := (setM 2 lc1_words_of_length)
noncomputable def fo1_words_of_length : M Fl := ((range1M (look 1)) >>= forM (put 3 false) bd1_words_of_length)
noncomputable def sem_words_of_length : M Fl := (seqM (setM 2 (lstM (consM (pure (.str "")) (pure []))))
    (seqM fo1_words_of_length
    (giveM 2)))
noncomputable def F_words_of_length : Fn := fnOf 2 6 [] sem_words_of_length
noncomputable def lc1_word_tuples (self : Fn) : M OV := (lcM (itemsM (take 5)) [7] (put 7 false) (pure true) (asF (bin2 (asF (tupM (consM (take 6) (pure [])))) (look 7) addP)))
noncomputable def bd1_word_tuples (self : Fn) : M Fl := (dropM (mutM 3 (consM (asF (lc1_word_tuples self)) (pure [])) extendP))
noncomputable def fo1_word_tuples (self : Fn) : M Fl := ((itemsM (asF (callM [] F_words_of_length (slotM 0 (slotM 4 (pure [])))))) >>= forM (put 6 false) (bd1_word_tuples self))
noncomputable def bd2_word_tuples (self : Fn) : M Fl := (seqM (setM 5 (callM [] self (slotM 0 (valM (asF (bin2v 1 (pure (.int 1)) subP)) (valM (asF (bin2v 2 (look 4) subP)) (pure []))))))
    (fo1_word_tuples self))
noncomputable def fo2_word_tuples (self : Fn) : M Fl := ((range1M (asF (bin2v 2 (pure (.int 1)) addP))) >>= forM (put 4 false) (bd2_word_tuples self))
noncomputable def sem_word_tuples (self : Fn) : M Fl := (seqM (ifM (asT (bin2v 1 (pure (.int 0)) eqP)) (retM (ifM (asT (bin2v 2 (pure (.int 0)) eqP)) (lstM (consM (asF (tupM (pure []))) (pure []))) (lstM (pure [])))) (pure .nx))
    (seqM (setM 3 (lstM (pure [])))
    (seqM (fo2_word_tuples self)
    (giveM 3))))
noncomputable def Fr_word_tuples : Nat → Fn
  | 0 => fun _ => none
  | k + 1 => fnOf 3 8 [] (sem_word_tuples (Fr_word_tuples k))
noncomputable def F_word_tuples : Fn := Fr_word_tuples 40
noncomputable def lc1__law_are_tuples : M OV := (lcM (itemsM (asF (bin2v 0 (look 2) ixP))) [3] (put 3 false) (pure true) (asF (un1 (look 3) (isiM "str"))))
noncomputable def bd1__law_are_tuples : M Fl := (seqM (ifM (orM (notM (truM (asF (un1 (asF (bin2v 0 (look 2) ixP)) (isiM "tuple"))))) (notM (truM (asF (un1 (asF lc1__law_are_tuples) allP))))) (retM ((pure (.bl false)) >>= fun v => pure (false, v))) (pure .nx))
    (ifM (asT (bin2 (asF (bin2v 0 (look 2) ixP)) (asF (bin2v 1 (look 2) ixP)) neP)) (retM ((pure (.bl false)) >>= fun v => pure (false, v))) (pure .nx)))
noncomputable def fo1__law_are_tuples : M Fl := ((range1M (asF (un1 (look 1) lenP))) >>= forM (put 2 false) bd1__law_are_tuples)
noncomputable def sem__law_are_tuples : M Fl := (seqM (ifM (orM (notM (truM (asF (un1 (look 0) (isiM "list"))))) (asT (bin2 (asF (un1 (look 0) lenP)) (asF (un1 (look 1) lenP)) neP))) (retM ((pure (.bl false)) >>= fun v => pure (false, v))) (pure .nx))
    (seqM fo1__law_are_tuples
    (retM ((pure (.bl true)) >>= fun v => pure (false, v)))))
noncomputable def F__law_are_tuples : Fn := fnOf 2 4 [] sem__law_are_tuples
noncomputable def bd1__law_lists_stand : M Fl := (seqM (setM 5 (callM [] F_word_tuples (slotM 0 (slotM 1 (slotM 2 (pure []))))))
    (seqM (ifM (notM (truM (asF (callM [] F__law_are_tuples (slotM 5 (slotM 3 (pure []))))))) (retM ((pure (.bl false)) >>= fun v => pure (false, v))) (pure .nx))
    (seqM (dropM (mutM 5 (consM (asF (tupM (consM (pure (.str "spoilt")) (pure [])))) (pure [])) appendP))
    (setIxM 5 (asF (tupM (pure []))) (pure (.int 0))))))
noncomputable def fo1__law_lists_stand : M Fl := ((range1M (pure (.int 2))) >>= forM (put 4 false) bd1__law_lists_stand)
noncomputable def sem__law_lists_stand : M Fl := (seqM fo1__law_lists_stand
    (retM ((pure (.bl true)) >>= fun v => pure (false, v))))
noncomputable def F__law_lists_stand : Fn := fnOf 4 6 [] sem__law_lists_stand
noncomputable def sem__law_is_truth : M Fl := (retM (andV (asF (un1 (look 0) (isiM "bool"))) (bin2v 0 (look 1) eqP)))
noncomputable def F__law_is_truth : Fn := fnOf 2 2 [] sem__law_is_truth
noncomputable def sem_shortlex_less : M Fl := (retM (bin2 (asF (callM [] F_word_key (slotM 0 (pure [])))) (asF (callM [] F_word_key (slotM 1 (pure [])))) ltP))
noncomputable def F_shortlex_less : Fn := fnOf 2 2 [] sem_shortlex_less
noncomputable def bd1__law_first_unlike : M Fl := (augM 2 (pure (.int 1)) iaddP)
noncomputable def wh1__law_first_unlike : M Fl := (whileM (andM (asT (bin2v 2 (asF (un1 (look 0) lenP)) ltP)) (andM (asT (bin2v 2 (asF (un1 (look 1) lenP)) ltP)) (asT (bin2 (asF (bin2v 0 (look 2) ixP)) (asF (bin2v 1 (look 2) ixP)) eqP)))) bd1__law_first_unlike)
noncomputable def sem__law_first_unlike : M Fl := (seqM (setM 2 ((pure (.int 0)) >>= fun v => pure (false, v)))
    (seqM wh1__law_first_unlike
    (giveM 2)))
noncomputable def F__law_first_unlike : Fn := fnOf 2 3 [] sem__law_first_unlike
noncomputable def sem__law_in_dictionary : M Fl := (seqM (setM 2 (callM [] F__law_first_unlike (slotM 0 (slotM 1 (pure [])))))
    (seqM (ifM (asT (bin2v 2 (asF (un1 (look 1) lenP)) eqP)) (retM ((pure (.bl false)) >>= fun v => pure (false, v))) (pure .nx))
    (seqM (ifM (asT (bin2v 2 (asF (un1 (look 0) lenP)) eqP)) (retM ((pure (.bl true)) >>= fun v => pure (false, v))) (pure .nx))
    (retM (bin2 (asF (bin2v 0 (look 2) ixP)) (asF (bin2v 1 (look 2) ixP)) ltP)))))
noncomputable def F__law_in_dictionary : Fn := fnOf 2 3 [] sem__law_in_dictionary
noncomputable def sem__law_in_shortlex : M Fl := (seqM (ifM (asT (bin2 (asF (un1 (look 0) lenP)) (asF (un1 (look 1) lenP)) neP)) (retM (bin2 (asF (un1 (look 0) lenP)) (asF (un1 (look 1) lenP)) ltP)) (pure .nx))
    (retM (callM [] F__law_in_dictionary (slotM 0 (slotM 1 (pure []))))))
noncomputable def F__law_in_shortlex : Fn := fnOf 2 2 [] sem__law_in_shortlex
noncomputable def sem_dictionary_less : M Fl := (retM (bin2v 0 (look 1) ltP))
noncomputable def F_dictionary_less : Fn := fnOf 2 2 [] sem_dictionary_less
noncomputable def bd1_law : M Fl := (seqM (ifM (notM (truM (asF (callM [] F__law_is_truth (valM (asF (callM [] F_shortlex_less (slotM 10 (slotM 11 (pure []))))) (valM (asF (callM [] F__law_in_shortlex (slotM 10 (slotM 11 (pure []))))) (pure []))))))) (retM ((pure (.bl false)) >>= fun v => pure (false, v))) (pure .nx))
    (seqM (ifM (notM (truM (asF (callM [] F__law_is_truth (valM (asF (callM [] F_dictionary_less (slotM 10 (slotM 11 (pure []))))) (valM (asF (callM [] F__law_in_dictionary (slotM 10 (slotM 11 (pure []))))) (pure []))))))) (retM ((pure (.bl false)) >>= fun v => pure (false, v))) (pure .nx))
    (ifM (asT (bin2 (asF (un1 (asF (lstM (consM (asF (tupM (consM (take 10) (pure [])))) (consM (asF (tupM (consM (take 11) (pure [])))) (pure []))))) (sortKeyP F_model_key))) (asF (un1 (asF (lstM (consM (asF (tupM (consM (take 10) (pure [])))) (consM (asF (tupM (consM (take 11) (pure [])))) (pure []))))) (sortKeyP F__law_order))) neP)) (retM ((pure (.bl false)) >>= fun v => pure (false, v))) (pure .nx))))
noncomputable def fo1_law : M Fl := ((itemsM (asF (callM [0] F__law_pairs (slotM 1 (slotM 3 (pure [])))))) >>= forM (putTup (putCons (put 10 false) (putCons (put 11 false) putNil))) bd1_law)
noncomputable def sem_law : M Fl := (seqM (setM 1 (callM [] F__law_begin (slotM 0 (pure []))))
    (seqM (setM 2 (bin2 (pure (.int 1)) (asF (callM [0] F__law_draw (slotM 1 (valM (pure (.int 4)) (pure []))))) addP))
    (seqM (setM 3 (callM [0] F__law_alphabet (slotM 1 (slotM 2 (pure [])))))
    (seqM (setM 4 (callM [0] F__law_draw (slotM 1 (valM (pure (.int 5)) (pure [])))))
    (seqM (setM 5 (bin2 (asF (lstM (consM (pure (.int 9)) (consM (pure (.int 5)) (consM (pure (.int 4)) (consM (pure (.int 3)) (pure []))))))) (asF (bin2v 2 (pure (.int 1)) subP)) ixP))
    (seqM (setM 6 (callM [0] F__law_draw (slotM 1 (slotM 5 (pure [])))))
    (seqM (setM 7 (callM [0] F__law_draw (slotM 1 (slotM 5 (pure [])))))
    (seqM (setM 8 (callM [] F__law_all_tuples (slotM 3 (slotM 4 (slotM 6 (pure []))))))
    (seqM (setM 9 (callM [] F__law_all_tuples (slotM 3 (slotM 4 (slotM 7 (pure []))))))
    (seqM (ifM (orM (notM (truM (asF (callM [] F__law_lists_stand (slotM 3 (slotM 4 (slotM 6 (slotM 8 (pure []))))))))) (notM (truM (asF (callM [] F__law_lists_stand (slotM 3 (slotM 4 (slotM 7 (slotM 9 (pure [])))))))))) (retM ((pure (.bl false)) >>= fun v => pure (false, v))) (pure .nx))
    (seqM (ifM (notM (truM (asF (callM [0] F__law_sorting_stands (slotM 1 (valM (asF (bin2v 8 (look 9) addP)) (pure []))))))) (retM ((pure (.bl false)) >>= fun v => pure (false, v))) (pure .nx))
    (seqM fo1_law
    (retM ((pure (.bl true)) >>= fun v => pure (false, v)))))))))))))))
noncomputable def F_law : Fn := fnOf 1 12 [] sem_law
end MC.Law
set_option Elab.async false
set_option linter.all false
set_option maxRecDepth 100000
set_option maxHeartbeats 4000000
namespace MC.Law
open PySem PySem.Spec L2
def top (i : Nat) : Stmt := PySem.Challenge.pw_lettercourt_k02_tuples_in_order.main.body.getD i (.Pass ⟨0, 0, 0, 0⟩)
structure Bl (mg : Str → Option Value) : Prop where
  b_abs : mg "abs" = none
  b_all : mg "all" = none
  b_bool : mg "bool" = none
  b_int : mg "int" = none
  b_isinstance : mg "isinstance" = none
  b_len : mg "len" = none
  b_list : mg "list" = none
  b_range : mg "range" = none
  b_reversed : mg "reversed" = none
  b_sorted : mg "sorted" = none
  b_str : mg "str" = none
  b_sum : mg "sum" = none
  b_tuple : mg "tuple" = none
section
variable {P : Program} {w : World} {K : PySem.W.Frag} {mg : Str → Option Value} {base : Heap}
abbrev s__law_begin : Stmt := top 8
theorem sc__law_begin : FnScope ["script", "cell"] ["script"] (defScope s__law_begin) := ⟨rfl, rfl, rfl, by decide +kernel, rfl, by decide +kernel, by decide +kernel⟩
theorem ok__law_begin (T : Bl mg)  (D : Dfn K mg "_law_begin" s__law_begin ["script"]) : Cal P w K mg base 1 "_law_begin" ["script"] [] F__law_begin :=
  D.cal (N := ["script", "cell"]) sc__law_begin (by decide) fun f cdv A outer s H E hr =>
    (wss_one (ws_ret (we_lst (wl_cons (WE.wf (we_lc (own := [("cell", 1)]) rfl sc__law_begin.nd (wi_any (wf_var 0)) (blkOk_by (by kernel_rfl)) (by decide) (fun _ _ _ _ _ => (wg_name 1 sc__law_begin.nd)) (fun _ _ _ _ _ => wts_nil) (fun _ _ _ _ _ => (WE.wf (we_callT (p_int) rfl T.b_int (by decide +kernel) (wo_var 1)))))) (wl_cons wf_int (wl_cons wf_int (wl_cons wf_int (wl_cons wf_int wl_nil))))))))
abbrev s__law_draw : Stmt := top 9
theorem sc__law_draw : FnScope ["d", "many", "found", "size", "cell"] ["d", "many"] (defScope s__law_draw) := ⟨rfl, rfl, rfl, by decide +kernel, rfl, by decide +kernel, by decide +kernel⟩
theorem ok__law_draw (T : Bl mg)  (D : Dfn K mg "_law_draw" s__law_draw ["d", "many"]) : Cal P w K mg base 1 "_law_draw" ["d", "many"] [0] F__law_draw :=
  D.cal (N := ["d", "many", "found", "size", "cell"]) sc__law_draw (by decide) fun f cdv A outer s H E hr =>
    (wss_cons (ws_if (wt_cmp (p_gt hr.u64) (WE.wf (we_ixv (p_ix hr.u1) (pv 0) (WF.wo wf_int))) (WF.wo wf_int)) (wss_cons (ws_set 2 (by decide) sc__law_draw.nd (we_ixv (p_ix hr.u1) (pv 0) (WF.wo wf_int)))
    (wss_cons (ws_setIx hr.u1 (pv 0) (WF.wo wf_int) (WE.wf (we_binv p_fdiv (pv 2) (wo_var 1))))
    (wss_one (ws_ret (we_bin p_mod (WE.wf (we_callT (p_int) rfl T.b_int (by decide +kernel) (wo_var 2))) (wo_var 1)))))) wss_nil)
    (wss_cons (ws_set 3 (by decide) sc__law_draw.nd (WF.we wf_int))
    (wss_cons (ws_if (wt_cmp (p_lt hr.u64) (WE.wf (we_ixv (p_ix hr.u1) (pv 0) (WF.wo wf_int))) (WE.wo (we_call1 p_len rfl T.b_len (by decide +kernel) (WE.wo (we_ixv (p_ix hr.u1) (pv 0) (WF.wo wf_int)))))) (wss_cons (ws_set 4 (by decide) sc__law_draw.nd (we_ix (p_ix hr.u1) (WE.wf (we_ixv (p_ix hr.u1) (pv 0) (WF.wo wf_int))) (WE.wo (we_ixv (p_ix hr.u1) (pv 0) (WF.wo wf_int)))))
    (wss_one (ws_set 3 (by decide) sc__law_draw.nd (we_bin p_add (WE.wf (we_bin p_mul wf_int (WE.wo (we_call1 p_abs rfl T.b_abs (by decide +kernel) (wo_var 4))))) (WE.wo (we_callT (p_int) rfl T.b_int (by decide +kernel) (WE.wo (we_cmpv (p_lt hr.u64) (pv 4) (WF.wo wf_int))))))))) wss_nil)
    (wss_cons (ws_augIx hr.u1 p_iadd (pv 0) wf_int wf_int)
    (wss_cons (ws_if (wt_cmpv (p_ge hr.u64) (pv 3) (WE.wo (we_bin p_mul wf_int (WE.wo (we_bin p_pow wf_int (WF.wo wf_int)))))) (wss_cons (ws_set 2 (by decide) sc__law_draw.nd (we_bin p_mod (WE.wf (we_callT (p_int) rfl T.b_int (by decide +kernel) (WE.wo (we_binv p_fdiv (pv 3) (WF.wo wf_int))))) (WE.wo (we_bin p_shl wf_int (WF.wo wf_int)))))
    (wss_cons (ws_setIx hr.u1 (pv 0) (WF.wo wf_int) (WE.wf (we_binv p_fdiv (pv 2) (wo_var 1))))
    (wss_one (ws_ret (we_bin p_mod (WE.wf (we_callT (p_int) rfl T.b_int (by decide +kernel) (wo_var 2))) (wo_var 1)))))) wss_nil)
    (wss_cons (ws_setIx hr.u1 (pv 0) (WF.wo wf_int) (WE.wf (we_bin p_mod (WE.wf (we_callT (p_int) rfl T.b_int (by decide +kernel) (WE.wo (we_bin p_add (WE.wf (we_bin p_add (WE.wf (we_bin p_add (WE.wf (we_bin p_mul (WE.wf (we_ixv (p_ix hr.u1) (pv 0) (WF.wo wf_int))) (WF.wo wf_int))) (WE.wo (we_bin p_mul (WE.wf (we_bin p_mod (WE.wf (we_callT (p_int) rfl T.b_int (by decide +kernel) (wo_var 3))) (WF.wo wf_int))) (WF.wo wf_int))))) (WE.wo (we_bin p_mul (WE.wf (we_ixv (p_ix hr.u1) (pv 0) (WF.wo wf_int))) (WF.wo wf_int))))) (WF.wo wf_int))))) (WF.wo wf_int))))
    (wss_one (ws_ret (we_bin p_mod (WE.wf (we_callT (p_int) rfl T.b_int (by decide +kernel) (WE.wo (we_bin p_fdiv (WE.wf (we_ixv (p_ix hr.u1) (pv 0) (WF.wo wf_int))) (WF.wo wf_int))))) (wo_var 1))))))))))
abbrev s__law_pop : Stmt := top 11
theorem sc__law_pop : FnScope ["d", "row"] ["d", "row"] (defScope s__law_pop) := ⟨rfl, rfl, rfl, by decide +kernel, rfl, by decide +kernel, by decide +kernel⟩
theorem ok__law_pop (T : Bl mg) (C__law_draw : Cal P w K mg base 1 "_law_draw" ["d", "many"] [0] F__law_draw) (D : Dfn K mg "_law_pop" s__law_pop ["d", "row"]) : Cal P w K mg base 2 "_law_pop" ["d", "row"] [0, 1] F__law_pop :=
  D.cal (N := ["d", "row"]) sc__law_pop (by decide) fun f cdv A outer s H E hr =>
    (wss_one (ws_ret (we_mut PySem.F.slot_list_pop PySem.F.type_list_pop p_pop (pv 1) (wl_cons (WE.wf (C__law_draw.we hr (by decide) rfl (was_slot (pv 0) (was_val (WE.wf (we_call1 p_len rfl T.b_len (by decide +kernel) (wo_var 1))) was_nil)))) wl_nil))))
abbrev s__law_alphabet : Stmt := top 15
theorem sc__law_alphabet : FnScope ["d", "many", "left", "found", "k"] ["d", "many"] (defScope s__law_alphabet) := ⟨rfl, rfl, rfl, by decide +kernel, rfl, by decide +kernel, by decide +kernel⟩
theorem ok__law_alphabet (T : Bl mg) (C__law_pop : Cal P w K mg base 2 "_law_pop" ["d", "row"] [0, 1] F__law_pop) (D : Dfn K mg "_law_alphabet" s__law_alphabet ["d", "many"]) : Cal P w K mg base 3 "_law_alphabet" ["d", "many"] [0] F__law_alphabet :=
  D.cal (N := ["d", "many", "left", "found", "k"]) sc__law_alphabet (by decide) fun f cdv A outer s H E hr =>
    (wss_cons (ws_set 2 (by decide) sc__law_alphabet.nd (we_callT (p_list rfl) rfl T.b_list (by decide +kernel) (WF.wo wf_str)))
    (wss_cons (ws_set 3 (by decide) sc__law_alphabet.nd (we_lst wl_nil))
    (wss_cons (ws_for PassesOwn.never rfl (by decide) (wi_range1 rfl T.b_range (wo_var 1)) (wg_name 4 sc__law_alphabet.nd) (wss_one (ws_expr (we_mut PySem.F.slot_list_append PySem.F.type_list_append p_append (pv 3) (wl_cons (WE.wf (C__law_pop.we hr (by decide) rfl (was_slot (pv 0) (was_slot (pv 2) was_nil)))) wl_nil)))))
    (wss_one (ws_ret (we_str PySem.F.slot_str_join PySem.F.type_str_join p_join (WF.wo wf_str) (wl_cons (WE.wf (we_call1 (p_sorted2 hr.u64) rfl T.b_sorted (by decide +kernel) (wo_var 3))) wl_nil)))))))
abbrev s__law_cuts : Stmt := top 16
theorem sc__law_cuts : FnScope ["size", "many", "rows", "k", "fresh", "row", "low", "place"] ["size", "many"] (defScope s__law_cuts) := ⟨rfl, rfl, rfl, by decide +kernel, rfl, by decide +kernel, by decide +kernel⟩
theorem ok__law_cuts (T : Bl mg)  (D : Dfn K mg "_law_cuts" s__law_cuts ["size", "many"]) : Cal P w K mg base 1 "_law_cuts" ["size", "many"] [] F__law_cuts :=
  D.cal (N := ["size", "many", "rows", "k", "fresh", "row", "low", "place"]) sc__law_cuts (by decide) fun f cdv A outer s H E hr =>
    (wss_cons (ws_set 2 (by decide) sc__law_cuts.nd (we_lst (wl_cons (WE.wf (we_tup wl_nil)) wl_nil)))
    (wss_cons (ws_for PassesOwn.never rfl (by decide) (wi_range1 rfl T.b_range (WE.wo (we_binv p_sub (pv 1) (WF.wo wf_int)))) (wg_name 3 sc__law_cuts.nd) (wss_cons (ws_set 4 (by decide) sc__law_cuts.nd (we_lst wl_nil))
    (wss_cons (ws_for PassesOwn.never rfl (by decide) (wi_any (wf_var 2)) (wg_name 5 sc__law_cuts.nd) (wss_cons (ws_set 6 (by decide) sc__law_cuts.nd (we_if (wt_cmp (p_gt hr.u64) (WE.wf (we_call1 p_len rfl T.b_len (by decide +kernel) (wo_var 5))) (WF.wo wf_int)) (we_ixv (p_ix hr.u1) (pv 5) (WE.wo (we_un p_neg (WF.wo wf_int)))) (WF.we wf_int)))
    (wss_one (ws_for PassesOwn.never rfl (by decide) (wi_range2 rfl T.b_range (wf_var 6) (WE.wo (we_binv p_add (pv 0) (WF.wo wf_int)))) (wg_name 7 sc__law_cuts.nd) (wss_one (ws_expr (we_mut PySem.F.slot_list_append PySem.F.type_list_append p_append (pv 4) (wl_cons (WE.wf (we_binv p_add (pv 5) (WE.wo (we_tup (wl_cons (wf_var 7) wl_nil))))) wl_nil))))))))
    (wss_one (ws_set 2 (by decide) sc__law_cuts.nd (WF.we (wf_var 4)))))))
    (wss_one (ws_retv 2 (pv 2)))))
abbrev s__law_order : Stmt := top 14
theorem sc__law_order : FnScope ["row", "word"] ["row"] (defScope s__law_order) := ⟨rfl, rfl, rfl, by decide +kernel, rfl, by decide +kernel, by decide +kernel⟩
theorem ok__law_order (T : Bl mg)  (D : Dfn K mg "_law_order" s__law_order ["row"]) : Cal P w K mg base 1 "_law_order" ["row"] [] F__law_order :=
  D.cal (N := ["row", "word"]) sc__law_order (by decide) fun f cdv A outer s H E hr =>
    (wss_one (ws_ret (we_tup (wl_cons (WE.wf (we_call1 (p_sum rfl) rfl T.b_sum (by decide +kernel) (WE.wo (we_lc (own := [("word", 1)]) rfl sc__law_order.nd (wi_any (wf_var 0)) (blkOk_by (by kernel_rfl)) (by decide) (fun _ _ _ _ _ => (wg_name 1 sc__law_order.nd)) (fun _ _ _ _ _ => wts_nil) (fun _ _ _ _ _ => (WE.wf (we_call1 p_len rfl T.b_len (by decide +kernel) (wo_var 1)))))))) (wl_cons (WE.wf (we_lc (own := [("word", 1)]) rfl sc__law_order.nd (wi_any (wf_var 0)) (blkOk_by (by kernel_rfl)) (by decide) (fun _ _ _ _ _ => (wg_name 1 sc__law_order.nd)) (fun _ _ _ _ _ => wts_nil) (fun _ _ _ _ _ => (WE.wf (we_tup (wl_cons (WE.wf (we_call1 p_len rfl T.b_len (by decide +kernel) (wo_var 1))) (wl_cons (wf_var 1) wl_nil))))))) wl_nil)))))
abbrev s__law_words : Stmt := top 13
theorem sc__law_words : FnScope ["letters", "most", "layer", "found", "size", "fresh", "word", "sign"] ["letters", "most"] (defScope s__law_words) := ⟨rfl, rfl, rfl, by decide +kernel, rfl, by decide +kernel, by decide +kernel⟩
theorem ok__law_words (T : Bl mg)  (D : Dfn K mg "_law_words" s__law_words ["letters", "most"]) : Cal P w K mg base 1 "_law_words" ["letters", "most"] [] F__law_words :=
  D.cal (N := ["letters", "most", "layer", "found", "size", "fresh", "word", "sign"]) sc__law_words (by decide) fun f cdv A outer s H E hr =>
    (wss_cons (ws_set 2 (by decide) sc__law_words.nd (we_lst (wl_cons wf_str wl_nil)))
    (wss_cons (ws_set 3 (by decide) sc__law_words.nd (we_lst (wl_cons wf_str wl_nil)))
    (wss_cons (ws_for PassesOwn.never rfl (by decide) (wi_range1 rfl T.b_range (wo_var 1)) (wg_name 4 sc__law_words.nd) (wss_cons (ws_set 5 (by decide) sc__law_words.nd (we_lst wl_nil))
    (wss_cons (ws_for PassesOwn.never rfl (by decide) (wi_any (wf_var 2)) (wg_name 6 sc__law_words.nd) (wss_one (ws_for PassesOwn.never rfl (by decide) (wi_any (wf_var 0)) (wg_name 7 sc__law_words.nd) (wss_one (ws_expr (we_mut PySem.F.slot_list_append PySem.F.type_list_append p_append (pv 5) (wl_cons (WE.wf (we_binv p_add (pv 6) (wo_var 7))) wl_nil)))))))
    (wss_cons (ws_set 2 (by decide) sc__law_words.nd (WF.we (wf_var 5)))
    (wss_one (ws_set 3 (by decide) sc__law_words.nd (we_binv p_add (pv 3) (wo_var 2))))))))
    (wss_one (ws_retv 3 (pv 3))))))
abbrev s__law_cut : Stmt := top 17
theorem sc__law_cut : FnScope ["word", "row", "found", "low", "place"] ["word", "row"] (defScope s__law_cut) := ⟨rfl, rfl, rfl, by decide +kernel, rfl, by decide +kernel, by decide +kernel⟩
theorem ok__law_cut (T : Bl mg)  (D : Dfn K mg "_law_cut" s__law_cut ["word", "row"]) : Cal P w K mg base 1 "_law_cut" ["word", "row"] [] F__law_cut :=
  D.cal (N := ["word", "row", "found", "low", "place"]) sc__law_cut (by decide) fun f cdv A outer s H E hr =>
    (wss_cons (ws_set 2 (by decide) sc__law_cut.nd (we_tup wl_nil))
    (wss_cons (ws_set 3 (by decide) sc__law_cut.nd (WF.we wf_int))
    (wss_cons (ws_for PassesOwn.never rfl (by decide) (wi_any (wf_var 1)) (wg_name 4 sc__law_cut.nd) (wss_cons (ws_set 2 (by decide) sc__law_cut.nd (we_binv p_add (pv 2) (WE.wo (we_tup (wl_cons (WE.wf (we_slv p_sl (pv 0) (wp_part (wo_var 3)) (wp_part (wo_var 4)))) wl_nil)))))
    (wss_one (ws_set 3 (by decide) sc__law_cut.nd (WF.we (wf_var 4))))))
    (wss_one (ws_ret (we_binv p_add (pv 2) (WE.wo (we_tup (wl_cons (WE.wf (we_slv p_sl (pv 0) (wp_part (wo_var 3)) wp_none)) wl_nil)))))))))
abbrev s__law_all_tuples : Stmt := top 18
theorem sc__law_all_tuples : FnScope ["letters", "many", "total", "words", "found", "row", "word"] ["letters", "many", "total"] (defScope s__law_all_tuples) := ⟨rfl, rfl, rfl, by decide +kernel, rfl, by decide +kernel, by decide +kernel⟩
theorem ok__law_all_tuples (T : Bl mg) (C__law_cuts : Cal P w K mg base 1 "_law_cuts" ["size", "many"] [] F__law_cuts) (C__law_order : Cal P w K mg base 1 "_law_order" ["row"] [] F__law_order) (C__law_words : Cal P w K mg base 1 "_law_words" ["letters", "most"] [] F__law_words) (C__law_cut : Cal P w K mg base 1 "_law_cut" ["word", "row"] [] F__law_cut) (D : Dfn K mg "_law_all_tuples" s__law_all_tuples ["letters", "many", "total"]) : Cal P w K mg base 4 "_law_all_tuples" ["letters", "many", "total"] [] F__law_all_tuples :=
  D.cal (N := ["letters", "many", "total", "words", "found", "row", "word"]) sc__law_all_tuples (by decide) fun f cdv A outer s H E hr =>
    (wss_cons (ws_if (wt_cmpv (p_eq hr.u64) (pv 1) (WF.wo wf_int)) (wss_one (ws_ret (we_if (wt_cmpv (p_eq hr.u64) (pv 2) (WF.wo wf_int)) (we_lst (wl_cons (WE.wf (we_tup wl_nil)) wl_nil)) (we_lst wl_nil)))) wss_nil)
    (wss_cons (ws_setLc (own := [("word", 6)]) 3 (by decide) rfl sc__law_all_tuples.nd (wi_any (WE.wf (C__law_words.we hr (by decide) rfl (was_slot (pv 0) (was_slot (pv 2) was_nil))))) (blkOk_by (by kernel_rfl)) (by decide) (fun _ _ _ _ _ => (wg_name 6 sc__law_all_tuples.nd)) (fun _ _ _ _ _ => (wts_one (wt_cmp (p_eq hr.u64) (WE.wf (we_call1 p_len rfl T.b_len (by decide +kernel) (wo_var 6))) (wo_var 2)))) (fun _ _ _ _ _ => (wf_var 6)))
    (wss_cons (ws_set 4 (by decide) sc__law_all_tuples.nd (we_lst wl_nil))
    (wss_cons (ws_for PassesOwn.never rfl (by decide) (wi_any (WE.wf (C__law_cuts.we hr (by decide) rfl (was_slot (pv 2) (was_slot (pv 1) was_nil))))) (wg_name 5 sc__law_all_tuples.nd) (wss_one (ws_for PassesOwn.never rfl (by decide) (wi_any (wf_var 3)) (wg_name 6 sc__law_all_tuples.nd) (wss_one (ws_expr (we_mut PySem.F.slot_list_append PySem.F.type_list_append p_append (pv 4) (wl_cons (WE.wf (C__law_cut.we hr (by decide) rfl (was_slot (pv 6) (was_slot (pv 5) was_nil)))) wl_nil)))))))
    (wss_one (ws_ret (we_sortKey C__law_order hr (by decide) rfl T.b_sorted rfl (wo_var 4))))))))
abbrev s__law_word : Stmt := top 12
theorem sc__law_word : FnScope ["d", "letters", "most", "found", "k"] ["d", "letters", "most"] (defScope s__law_word) := ⟨rfl, rfl, rfl, by decide +kernel, rfl, by decide +kernel, by decide +kernel⟩
theorem ok__law_word (T : Bl mg) (C__law_draw : Cal P w K mg base 1 "_law_draw" ["d", "many"] [0] F__law_draw) (D : Dfn K mg "_law_word" s__law_word ["d", "letters", "most"]) : Cal P w K mg base 2 "_law_word" ["d", "letters", "most"] [0] F__law_word :=
  D.cal (N := ["d", "letters", "most", "found", "k"]) sc__law_word (by decide) fun f cdv A outer s H E hr =>
    (wss_cons (ws_set 3 (by decide) sc__law_word.nd (WF.we wf_str))
    (wss_cons (ws_for PassesOwn.never rfl (by decide) (wi_range1 rfl T.b_range (WE.wo (C__law_draw.we hr (by decide) rfl (was_slot (pv 0) (was_val (WE.wf (we_binv p_add (pv 2) (WF.wo wf_int))) was_nil))))) (wg_name 4 sc__law_word.nd) (wss_one (ws_set 3 (by decide) sc__law_word.nd (we_binv p_add (pv 3) (WE.wo (we_ixv (p_ix hr.u1) (pv 1) (WE.wo (C__law_draw.we hr (by decide) rfl (was_slot (pv 0) (was_val (WE.wf (we_call1 p_len rfl T.b_len (by decide +kernel) (wo_var 1))) was_nil))))))))))
    (wss_one (ws_retv 3 (pv 3)))))
abbrev s__law_pick : Stmt := top 10
theorem sc__law_pick : FnScope ["d", "row"] ["d", "row"] (defScope s__law_pick) := ⟨rfl, rfl, rfl, by decide +kernel, rfl, by decide +kernel, by decide +kernel⟩
theorem ok__law_pick (T : Bl mg) (C__law_draw : Cal P w K mg base 1 "_law_draw" ["d", "many"] [0] F__law_draw) (D : Dfn K mg "_law_pick" s__law_pick ["d", "row"]) : Cal P w K mg base 2 "_law_pick" ["d", "row"] [0] F__law_pick :=
  D.cal (N := ["d", "row"]) sc__law_pick (by decide) fun f cdv A outer s H E hr =>
    (wss_one (ws_ret (we_ixv (p_ix hr.u1) (pv 1) (WE.wo (C__law_draw.we hr (by decide) rfl (was_slot (pv 0) (was_val (WE.wf (we_call1 p_len rfl T.b_len (by decide +kernel) (wo_var 1))) was_nil)))))))
abbrev s__law_pairs : Stmt := top 25
theorem sc__law_pairs : FnScope ["d", "letters", "found", "k", "one", "other", "way", "place"] ["d", "letters"] (defScope s__law_pairs) := ⟨rfl, rfl, rfl, by decide +kernel, rfl, by decide +kernel, by decide +kernel⟩
theorem ok__law_pairs (T : Bl mg) (C__law_word : Cal P w K mg base 2 "_law_word" ["d", "letters", "most"] [0] F__law_word) (C__law_draw : Cal P w K mg base 1 "_law_draw" ["d", "many"] [0] F__law_draw) (C__law_pick : Cal P w K mg base 2 "_law_pick" ["d", "row"] [0] F__law_pick) (D : Dfn K mg "_law_pairs" s__law_pairs ["d", "letters"]) : Cal P w K mg base 3 "_law_pairs" ["d", "letters"] [0] F__law_pairs :=
  D.cal (N := ["d", "letters", "found", "k", "one", "other", "way", "place"]) sc__law_pairs (by decide) fun f cdv A outer s H E hr =>
    (wss_cons (ws_set 2 (by decide) sc__law_pairs.nd (we_lst wl_nil))
    (wss_cons (ws_for PassesOwn.never rfl (by decide) (wi_range1 rfl T.b_range (WF.wo wf_int)) (wg_name 3 sc__law_pairs.nd) (wss_cons (ws_set 4 (by decide) sc__law_pairs.nd (C__law_word.we hr (by decide) rfl (was_slot (pv 0) (was_slot (pv 1) (was_val wf_int was_nil)))))
    (wss_cons (ws_set 5 (by decide) sc__law_pairs.nd (C__law_word.we hr (by decide) rfl (was_slot (pv 0) (was_slot (pv 1) (was_val wf_int was_nil)))))
    (wss_cons (ws_set 6 (by decide) sc__law_pairs.nd (C__law_draw.we hr (by decide) rfl (was_slot (pv 0) (was_val wf_int was_nil))))
    (wss_cons (ws_if (wt_cmpv (p_eq hr.u64) (pv 6) (WF.wo wf_int)) (wss_one (ws_set 5 (by decide) sc__law_pairs.nd (we_binv p_add (pv 4) (wo_var 5)))) (wss_one (ws_if (wt_cmpv (p_eq hr.u64) (pv 6) (WF.wo wf_int)) (wss_one (ws_set 5 (by decide) sc__law_pairs.nd (WF.we (wf_var 4)))) (wss_one (ws_if (WW.wt (ww_and (wt_cmpv (p_eq hr.u64) (pv 6) (WF.wo wf_int)) (ww_and1 (wt_cmp (p_gt hr.u64) (WE.wf (we_call1 p_len rfl T.b_len (by decide +kernel) (wo_var 4))) (WF.wo wf_int))))) (wss_cons (ws_set 7 (by decide) sc__law_pairs.nd (C__law_draw.we hr (by decide) rfl (was_slot (pv 0) (was_val (WE.wf (we_call1 p_len rfl T.b_len (by decide +kernel) (wo_var 4))) was_nil))))
    (wss_one (ws_set 5 (by decide) sc__law_pairs.nd (we_bin p_add (WE.wf (we_bin p_add (WE.wf (we_slv p_sl (pv 4) wp_none (wp_part (wo_var 7)))) (WE.wo (C__law_pick.we hr (by decide) rfl (was_slot (pv 0) (was_slot (pv 1) was_nil)))))) (WE.wo (we_slv p_sl (pv 4) (wp_part (WE.wo (we_binv p_add (pv 7) (WF.wo wf_int)))) wp_none)))))) wss_nil)))))
    (wss_cons (ws_expr (we_mut PySem.F.slot_list_append PySem.F.type_list_append p_append (pv 2) (wl_cons (WE.wf (we_tup (wl_cons (wf_var 4) (wl_cons (wf_var 5) wl_nil)))) wl_nil)))
    (wss_one (ws_expr (we_mut PySem.F.slot_list_append PySem.F.type_list_append p_append (pv 2) (wl_cons (WE.wf (we_tup (wl_cons (wf_var 5) (wl_cons (wf_var 4) wl_nil)))) wl_nil))))))))))
    (wss_one (ws_retv 2 (pv 2)))))
abbrev s_word_key : Stmt := top 1
theorem sc_word_key : FnScope ["word"] ["word"] (defScope s_word_key) := ⟨rfl, rfl, rfl, by decide +kernel, rfl, by decide +kernel, by decide +kernel⟩
theorem ok_word_key (T : Bl mg)  (D : Dfn K mg "word_key" s_word_key ["word"]) : Cal P w K mg base 1 "word_key" ["word"] [] F_word_key :=
  D.cal (N := ["word"]) sc_word_key (by decide) fun f cdv A outer s H E hr =>
    (wss_one (ws_ret (we_tup (wl_cons (WE.wf (we_call1 p_len rfl T.b_len (by decide +kernel) (wo_var 0))) (wl_cons (wf_var 0) wl_nil)))))
abbrev s_model_key : Stmt := top 6
theorem sc_model_key : FnScope ["words", "word"] ["words"] (defScope s_model_key) := ⟨rfl, rfl, rfl, by decide +kernel, rfl, by decide +kernel, by decide +kernel⟩
theorem ok_model_key (T : Bl mg) (C_word_key : Cal P w K mg base 1 "word_key" ["word"] [] F_word_key) (D : Dfn K mg "model_key" s_model_key ["words"]) : Cal P w K mg base 2 "model_key" ["words"] [] F_model_key :=
  D.cal (N := ["words", "word"]) sc_model_key (by decide) fun f cdv A outer s H E hr =>
    (wss_one (ws_ret (we_tup (wl_cons (WE.wf (we_call1 (p_sum rfl) rfl T.b_sum (by decide +kernel) (WE.wo (we_lc (own := [("word", 1)]) rfl sc_model_key.nd (wi_any (wf_var 0)) (blkOk_by (by kernel_rfl)) (by decide) (fun _ _ _ _ _ => (wg_name 1 sc_model_key.nd)) (fun _ _ _ _ _ => wts_nil) (fun _ _ _ _ _ => (WE.wf (we_call1 p_len rfl T.b_len (by decide +kernel) (wo_var 1)))))))) (wl_cons (WE.wf (we_callT (p_tuple) rfl T.b_tuple (by decide +kernel) (WE.wo (we_lc (own := [("word", 1)]) rfl sc_model_key.nd (wi_any (wf_var 0)) (blkOk_by (by kernel_rfl)) (by decide) (fun _ _ _ _ _ => (wg_name 1 sc_model_key.nd)) (fun _ _ _ _ _ => wts_nil) (fun _ _ _ _ _ => (WE.wf (C_word_key.we hr (by decide) rfl (was_slot (pv 1) was_nil)))))))) wl_nil)))))
abbrev s__law_sorting_stands : Stmt := top 21
theorem sc__law_sorting_stands : FnScope ["d", "pool", "mixed", "k", "due", "row"] ["d", "pool"] (defScope s__law_sorting_stands) := ⟨rfl, rfl, rfl, by decide +kernel, rfl, by decide +kernel, by decide +kernel⟩
theorem ok__law_sorting_stands (T : Bl mg) (C__law_order : Cal P w K mg base 1 "_law_order" ["row"] [] F__law_order) (C__law_draw : Cal P w K mg base 1 "_law_draw" ["d", "many"] [0] F__law_draw) (C__law_pick : Cal P w K mg base 2 "_law_pick" ["d", "row"] [0] F__law_pick) (C_model_key : Cal P w K mg base 2 "model_key" ["words"] [] F_model_key) (D : Dfn K mg "_law_sorting_stands" s__law_sorting_stands ["d", "pool"]) : Cal P w K mg base 5 "_law_sorting_stands" ["d", "pool"] [0] F__law_sorting_stands :=
  D.cal (N := ["d", "pool", "mixed", "k", "due", "row"]) sc__law_sorting_stands (by decide) fun f cdv A outer s H E hr =>
    (wss_cons (ws_if (wt_cmp (p_eq hr.u64) (WE.wf (we_call1 p_len rfl T.b_len (by decide +kernel) (wo_var 1))) (WF.wo wf_int)) (wss_one (ws_ret (WF.we wf_bl))) wss_nil)
    (wss_cons (ws_set 2 (by decide) sc__law_sorting_stands.nd (we_lst wl_nil))
    (wss_cons (ws_for PassesOwn.never rfl (by decide) (wi_range1 rfl T.b_range (WE.wo (we_bin p_add wf_int (WE.wo (C__law_draw.we hr (by decide) rfl (was_slot (pv 0) (was_val wf_int was_nil))))))) (wg_name 3 sc__law_sorting_stands.nd) (wss_one (ws_expr (we_mut PySem.F.slot_list_append PySem.F.type_list_append p_append (pv 2) (wl_cons (WE.wf (C__law_pick.we hr (by decide) rfl (was_slot (pv 0) (was_slot (pv 1) was_nil)))) wl_nil)))))
    (wss_cons (ws_set 4 (by decide) sc__law_sorting_stands.nd (we_sortKey C__law_order hr (by decide) rfl T.b_sorted rfl (wo_var 2)))
    (wss_cons (ws_for PassesOwn.never rfl (by decide) (wi_any (WE.wf (we_lst (wl_cons (WE.wf (we_callT (p_list rfl) rfl T.b_list (by decide +kernel) (wo_var 2))) (wl_cons (WE.wf (we_listRev rfl rfl T.b_list rfl T.b_reversed (wo_var 2))) (wl_cons (WE.wf (we_listRev rfl rfl T.b_list rfl T.b_reversed (wo_var 4))) wl_nil)))))) (wg_name 5 sc__law_sorting_stands.nd) (wss_one (ws_if (wt_cmp (p_ne hr.u64) (WE.wf (we_sortKey C_model_key hr (by decide) rfl T.b_sorted rfl (wo_var 5))) (wo_var 4)) (wss_one (ws_ret (WF.we wf_bl))) wss_nil)))
    (wss_one (ws_ret (WF.we wf_bl))))))))
abbrev s_words_of_length : Stmt := top 4
theorem sc_words_of_length : FnScope ["letters", "length", "found", "step", "word", "sign"] ["letters", "length"] (defScope s_words_of_length) := ⟨rfl, rfl, rfl, by decide +kernel, rfl, by decide +kernel, by decide +kernel⟩
theorem ok_words_of_length (T : Bl mg)  (D : Dfn K mg "words_of_length" s_words_of_length ["letters", "length"]) : Cal P w K mg base 1 "words_of_length" ["letters", "length"] [] F_words_of_length :=
  D.cal (N := ["letters", "length", "found", "step", "word", "sign"]) sc_words_of_length (by decide) fun f cdv A outer s H E hr =>
    (wss_cons (ws_set 2 (by decide) sc_words_of_length.nd (we_lst (wl_cons wf_str wl_nil)))
    (wss_cons (ws_for PassesOwn.never rfl (by decide) (wi_range1 rfl T.b_range (wo_var 1)) (wg_name 3 sc_words_of_length.nd) (wss_one (ws_setLc2 (own := [("word", 4), ("sign", 5)]) (vs1 := [5]) 2 (by decide) rfl sc_words_of_length.nd (wi_any (wf_var 2)) (blkOk_by (by kernel_rfl)) (by decide) (by decide) (by decide) (fun _ _ _ _ _ => (wg_name 4 sc_words_of_length.nd)) (fun _ _ _ _ _ => wts_nil) (fun _ _ _ _ _ => (wi_any (wf_var 0))) (fun _ _ _ _ _ => (wg_name 5 sc_words_of_length.nd)) (fun _ _ _ _ _ => wts_nil) (fun _ _ _ _ _ => (WE.wf (we_binv p_add (pv 4) (wo_var 5)))))))
    (wss_one (ws_retv 2 (pv 2)))))
abbrev s_word_tuples : Stmt := top 5
theorem sc_word_tuples : FnScope ["letters", "many", "total", "found", "first", "rests", "word", "rest"] ["letters", "many", "total"] (defScope s_word_tuples) := ⟨rfl, rfl, rfl, by decide +kernel, rfl, by decide +kernel, by decide +kernel⟩
theorem okr_word_tuples (T : Bl mg) (C_words_of_length : Cal P w K mg base 1 "words_of_length" ["letters", "length"] [] F_words_of_length) (D : Dfn K mg "word_tuples" s_word_tuples ["letters", "many", "total"]) : ∀ k : Nat, Cal P w K mg base (1 + k) "word_tuples" ["letters", "many", "total"] [] (Fr_word_tuples k)
  | 0 => D.cal0 sc_word_tuples (by decide)
  | k + 1 => have C_word_tuples := okr_word_tuples T C_words_of_length D k
   D.cal (N := ["letters", "many", "total", "found", "first", "rests", "word", "rest"]) sc_word_tuples (by decide) fun f cdv A outer s H E hr =>
    (wss_cons (ws_if (wt_cmpv (p_eq hr.u64) (pv 1) (WF.wo wf_int)) (wss_one (ws_ret (we_if (wt_cmpv (p_eq hr.u64) (pv 2) (WF.wo wf_int)) (we_lst (wl_cons (WE.wf (we_tup wl_nil)) wl_nil)) (we_lst wl_nil)))) wss_nil)
    (wss_cons (ws_set 3 (by decide) sc_word_tuples.nd (we_lst wl_nil))
    (wss_cons (ws_for PassesOwn.never rfl (by decide) (wi_range1 rfl T.b_range (WE.wo (we_binv p_add (pv 2) (WF.wo wf_int)))) (wg_name 4 sc_word_tuples.nd) (wss_cons (ws_set 5 (by decide) sc_word_tuples.nd (C_word_tuples.we hr (Nat.le_refl _) rfl (was_slot (pv 0) (was_val (WE.wf (we_binv p_sub (pv 1) (WF.wo wf_int))) (was_val (WE.wf (we_binv p_sub (pv 2) (wo_var 4))) was_nil)))))
    (wss_one (ws_for PassesOwn.never rfl (by decide) (wi_any (WE.wf (C_words_of_length.we hr (Nat.le_trans (by decide : 1 ≤ 1) (Nat.le_add_right _ _)) rfl (was_slot (pv 0) (was_slot (pv 4) was_nil))))) (wg_name 6 sc_word_tuples.nd) (wss_one (ws_expr (we_mut PySem.F.slot_list_extend PySem.F.type_list_extend p_extend (pv 3) (wl_cons (WE.wf (we_lc (own := [("rest", 7)]) rfl sc_word_tuples.nd (wi_any (wf_var 5)) (blkOk_by (by kernel_rfl)) (by decide) (fun _ _ _ _ _ => (wg_name 7 sc_word_tuples.nd)) (fun _ _ _ _ _ => wts_nil) (fun _ _ _ _ _ => (WE.wf (we_bin p_add (WE.wf (we_tup (wl_cons (wf_var 6) wl_nil))) (wo_var 7)))))) wl_nil))))))))
    (wss_one (ws_retv 3 (pv 3))))))
theorem ok_word_tuples (T : Bl mg) (C_words_of_length : Cal P w K mg base 1 "words_of_length" ["letters", "length"] [] F_words_of_length) (D : Dfn K mg "word_tuples" s_word_tuples ["letters", "many", "total"]) : Cal P w K mg base 41 "word_tuples" ["letters", "many", "total"] [] F_word_tuples := okr_word_tuples T C_words_of_length D 40
abbrev s__law_are_tuples : Stmt := top 19
theorem sc__law_are_tuples : FnScope ["told", "due", "k", "word"] ["told", "due"] (defScope s__law_are_tuples) := ⟨rfl, rfl, rfl, by decide +kernel, rfl, by decide +kernel, by decide +kernel⟩
theorem ok__law_are_tuples (T : Bl mg)  (D : Dfn K mg "_law_are_tuples" s__law_are_tuples ["told", "due"]) : Cal P w K mg base 1 "_law_are_tuples" ["told", "due"] [] F__law_are_tuples :=
  D.cal (N := ["told", "due", "k", "word"]) sc__law_are_tuples (by decide) fun f cdv A outer s H E hr =>
    (wss_cons (ws_if (WW.wt (ww_or (wt_not (wt_truth (WE.wo (we_isi rfl T.b_isinstance rfl T.b_list (by decide +kernel) (wo_var 0))))) (ww_or1 (wt_cmp (p_ne hr.u64) (WE.wf (we_call1 p_len rfl T.b_len (by decide +kernel) (wo_var 0))) (WE.wo (we_call1 p_len rfl T.b_len (by decide +kernel) (wo_var 1))))))) (wss_one (ws_ret (WF.we wf_bl))) wss_nil)
    (wss_cons (ws_for PassesOwn.never rfl (by decide) (wi_range1 rfl T.b_range (WE.wo (we_call1 p_len rfl T.b_len (by decide +kernel) (wo_var 1)))) (wg_name 2 sc__law_are_tuples.nd) (wss_cons (ws_if (WW.wt (ww_or (wt_not (wt_truth (WE.wo (we_isi rfl T.b_isinstance rfl T.b_tuple (by decide +kernel) (WE.wo (we_ixv (p_ix hr.u1) (pv 0) (wo_var 2))))))) (ww_or1 (wt_not (wt_truth (WE.wo (we_call1 (p_all rfl) rfl T.b_all (by decide +kernel) (WE.wo (we_lc (own := [("word", 3)]) rfl sc__law_are_tuples.nd (wi_any (WE.wf (we_ixv (p_ix hr.u1) (pv 0) (wo_var 2)))) (blkOk_by (by kernel_rfl)) (by decide) (fun _ _ _ _ _ => (wg_name 3 sc__law_are_tuples.nd)) (fun _ _ _ _ _ => wts_nil) (fun _ _ _ _ _ => (WE.wf (we_isi rfl T.b_isinstance rfl T.b_str (by decide +kernel) (wo_var 3))))))))))))) (wss_one (ws_ret (WF.we wf_bl))) wss_nil)
    (wss_one (ws_if (wt_cmp (p_ne hr.u64) (WE.wf (we_ixv (p_ix hr.u1) (pv 0) (wo_var 2))) (WE.wo (we_ixv (p_ix hr.u1) (pv 1) (wo_var 2)))) (wss_one (ws_ret (WF.we wf_bl))) wss_nil))))
    (wss_one (ws_ret (WF.we wf_bl)))))
abbrev s__law_lists_stand : Stmt := top 20
theorem sc__law_lists_stand : FnScope ["letters", "many", "total", "due", "turn", "told"] ["letters", "many", "total", "due"] (defScope s__law_lists_stand) := ⟨rfl, rfl, rfl, by decide +kernel, rfl, by decide +kernel, by decide +kernel⟩
theorem ok__law_lists_stand (T : Bl mg) (C_word_tuples : Cal P w K mg base 41 "word_tuples" ["letters", "many", "total"] [] F_word_tuples) (C__law_are_tuples : Cal P w K mg base 1 "_law_are_tuples" ["told", "due"] [] F__law_are_tuples) (D : Dfn K mg "_law_lists_stand" s__law_lists_stand ["letters", "many", "total", "due"]) : Cal P w K mg base 42 "_law_lists_stand" ["letters", "many", "total", "due"] [] F__law_lists_stand :=
  D.cal (N := ["letters", "many", "total", "due", "turn", "told"]) sc__law_lists_stand (by decide) fun f cdv A outer s H E hr =>
    (wss_cons (ws_for PassesOwn.never rfl (by decide) (wi_range1 rfl T.b_range (WF.wo wf_int)) (wg_name 4 sc__law_lists_stand.nd) (wss_cons (ws_set 5 (by decide) sc__law_lists_stand.nd (C_word_tuples.we hr (by decide) rfl (was_slot (pv 0) (was_slot (pv 1) (was_slot (pv 2) was_nil)))))
    (wss_cons (ws_if (wt_not (wt_truth (WE.wo (C__law_are_tuples.we hr (by decide) rfl (was_slot (pv 5) (was_slot (pv 3) was_nil)))))) (wss_one (ws_ret (WF.we wf_bl))) wss_nil)
    (wss_cons (ws_expr (we_mut PySem.F.slot_list_append PySem.F.type_list_append p_append (pv 5) (wl_cons (WE.wf (we_tup (wl_cons wf_str wl_nil))) wl_nil)))
    (wss_one (ws_setIx hr.u1 (pv 5) (WF.wo wf_int) (WE.wf (we_tup wl_nil))))))))
    (wss_one (ws_ret (WF.we wf_bl))))
abbrev s__law_is_truth : Stmt := top 26
theorem sc__law_is_truth : FnScope ["told", "due"] ["told", "due"] (defScope s__law_is_truth) := ⟨rfl, rfl, rfl, by decide +kernel, rfl, by decide +kernel, by decide +kernel⟩
theorem ok__law_is_truth (T : Bl mg)  (D : Dfn K mg "_law_is_truth" s__law_is_truth ["told", "due"]) : Cal P w K mg base 1 "_law_is_truth" ["told", "due"] [] F__law_is_truth :=
  D.cal (N := ["told", "due"]) sc__law_is_truth (by decide) fun f cdv A outer s H E hr =>
    (wss_one (ws_ret (we_and (WE.wf (we_isi rfl T.b_isinstance rfl T.b_bool (by decide +kernel) (wo_var 0))) (we_one (we_cmpv (p_eq hr.u64) (pv 0) (wo_var 1))))))
abbrev s_shortlex_less : Stmt := top 2
theorem sc_shortlex_less : FnScope ["word", "other"] ["word", "other"] (defScope s_shortlex_less) := ⟨rfl, rfl, rfl, by decide +kernel, rfl, by decide +kernel, by decide +kernel⟩
theorem ok_shortlex_less (T : Bl mg) (C_word_key : Cal P w K mg base 1 "word_key" ["word"] [] F_word_key) (D : Dfn K mg "shortlex_less" s_shortlex_less ["word", "other"]) : Cal P w K mg base 2 "shortlex_less" ["word", "other"] [] F_shortlex_less :=
  D.cal (N := ["word", "other"]) sc_shortlex_less (by decide) fun f cdv A outer s H E hr =>
    (wss_one (ws_ret (we_cmp (p_lt hr.u64) (WE.wf (C_word_key.we hr (by decide) rfl (was_slot (pv 0) was_nil))) (WE.wo (C_word_key.we hr (by decide) rfl (was_slot (pv 1) was_nil))))))
abbrev s__law_first_unlike : Stmt := top 22
theorem sc__law_first_unlike : FnScope ["one", "other", "place"] ["one", "other"] (defScope s__law_first_unlike) := ⟨rfl, rfl, rfl, by decide +kernel, rfl, by decide +kernel, by decide +kernel⟩
theorem ok__law_first_unlike (T : Bl mg)  (D : Dfn K mg "_law_first_unlike" s__law_first_unlike ["one", "other"]) : Cal P w K mg base 1 "_law_first_unlike" ["one", "other"] [] F__law_first_unlike :=
  D.cal (N := ["one", "other", "place"]) sc__law_first_unlike (by decide) fun f cdv A outer s H E hr =>
    (wss_cons (ws_set 2 (by decide) sc__law_first_unlike.nd (WF.we wf_int))
    (wss_cons (ws_while PassesOwn.never (WW.wt (ww_and (wt_cmpv (p_lt hr.u64) (pv 2) (WE.wo (we_call1 p_len rfl T.b_len (by decide +kernel) (wo_var 0)))) (ww_and (wt_cmpv (p_lt hr.u64) (pv 2) (WE.wo (we_call1 p_len rfl T.b_len (by decide +kernel) (wo_var 1)))) (ww_and1 (wt_cmp (p_eq hr.u64) (WE.wf (we_ixv (p_ix hr.u1) (pv 0) (wo_var 2))) (WE.wo (we_ixv (p_ix hr.u1) (pv 1) (wo_var 2)))))))) (wss_one (ws_aug 2 (by decide) sc__law_first_unlike.nd p_iadd (WF.wo wf_int))))
    (wss_one (ws_retv 2 (pv 2)))))
abbrev s__law_in_dictionary : Stmt := top 23
theorem sc__law_in_dictionary : FnScope ["one", "other", "place"] ["one", "other"] (defScope s__law_in_dictionary) := ⟨rfl, rfl, rfl, by decide +kernel, rfl, by decide +kernel, by decide +kernel⟩
theorem ok__law_in_dictionary (T : Bl mg) (C__law_first_unlike : Cal P w K mg base 1 "_law_first_unlike" ["one", "other"] [] F__law_first_unlike) (D : Dfn K mg "_law_in_dictionary" s__law_in_dictionary ["one", "other"]) : Cal P w K mg base 2 "_law_in_dictionary" ["one", "other"] [] F__law_in_dictionary :=
  D.cal (N := ["one", "other", "place"]) sc__law_in_dictionary (by decide) fun f cdv A outer s H E hr =>
    (wss_cons (ws_set 2 (by decide) sc__law_in_dictionary.nd (C__law_first_unlike.we hr (by decide) rfl (was_slot (pv 0) (was_slot (pv 1) was_nil))))
    (wss_cons (ws_if (wt_cmpv (p_eq hr.u64) (pv 2) (WE.wo (we_call1 p_len rfl T.b_len (by decide +kernel) (wo_var 1)))) (wss_one (ws_ret (WF.we wf_bl))) wss_nil)
    (wss_cons (ws_if (wt_cmpv (p_eq hr.u64) (pv 2) (WE.wo (we_call1 p_len rfl T.b_len (by decide +kernel) (wo_var 0)))) (wss_one (ws_ret (WF.we wf_bl))) wss_nil)
    (wss_one (ws_ret (we_cmp (p_lt hr.u64) (WE.wf (we_ixv (p_ix hr.u1) (pv 0) (wo_var 2))) (WE.wo (we_ixv (p_ix hr.u1) (pv 1) (wo_var 2)))))))))
abbrev s__law_in_shortlex : Stmt := top 24
theorem sc__law_in_shortlex : FnScope ["one", "other"] ["one", "other"] (defScope s__law_in_shortlex) := ⟨rfl, rfl, rfl, by decide +kernel, rfl, by decide +kernel, by decide +kernel⟩
theorem ok__law_in_shortlex (T : Bl mg) (C__law_in_dictionary : Cal P w K mg base 2 "_law_in_dictionary" ["one", "other"] [] F__law_in_dictionary) (D : Dfn K mg "_law_in_shortlex" s__law_in_shortlex ["one", "other"]) : Cal P w K mg base 3 "_law_in_shortlex" ["one", "other"] [] F__law_in_shortlex :=
  D.cal (N := ["one", "other"]) sc__law_in_shortlex (by decide) fun f cdv A outer s H E hr =>
    (wss_cons (ws_if (wt_cmp (p_ne hr.u64) (WE.wf (we_call1 p_len rfl T.b_len (by decide +kernel) (wo_var 0))) (WE.wo (we_call1 p_len rfl T.b_len (by decide +kernel) (wo_var 1)))) (wss_one (ws_ret (we_cmp (p_lt hr.u64) (WE.wf (we_call1 p_len rfl T.b_len (by decide +kernel) (wo_var 0))) (WE.wo (we_call1 p_len rfl T.b_len (by decide +kernel) (wo_var 1)))))) wss_nil)
    (wss_one (ws_ret (C__law_in_dictionary.we hr (by decide) rfl (was_slot (pv 0) (was_slot (pv 1) was_nil))))))
abbrev s_dictionary_less : Stmt := top 3
theorem sc_dictionary_less : FnScope ["word", "other"] ["word", "other"] (defScope s_dictionary_less) := ⟨rfl, rfl, rfl, by decide +kernel, rfl, by decide +kernel, by decide +kernel⟩
theorem ok_dictionary_less (T : Bl mg)  (D : Dfn K mg "dictionary_less" s_dictionary_less ["word", "other"]) : Cal P w K mg base 1 "dictionary_less" ["word", "other"] [] F_dictionary_less :=
  D.cal (N := ["word", "other"]) sc_dictionary_less (by decide) fun f cdv A outer s H E hr =>
    (wss_one (ws_ret (we_cmpv (p_lt hr.u64) (pv 0) (wo_var 1))))
abbrev s_law : Stmt := top 27
theorem sc_law : FnScope ["script", "d", "size", "letters", "many", "room", "total", "other", "due", "due_of_other", "one", "two"] ["script"] (defScope s_law) := ⟨rfl, rfl, rfl, by decide +kernel, rfl, by decide +kernel, by decide +kernel⟩
theorem ok_law (T : Bl mg) (C__law_begin : Cal P w K mg base 1 "_law_begin" ["script"] [] F__law_begin) (C__law_alphabet : Cal P w K mg base 3 "_law_alphabet" ["d", "many"] [0] F__law_alphabet) (C__law_draw : Cal P w K mg base 1 "_law_draw" ["d", "many"] [0] F__law_draw) (C__law_all_tuples : Cal P w K mg base 4 "_law_all_tuples" ["letters", "many", "total"] [] F__law_all_tuples) (C__law_pairs : Cal P w K mg base 3 "_law_pairs" ["d", "letters"] [0] F__law_pairs) (C__law_sorting_stands : Cal P w K mg base 5 "_law_sorting_stands" ["d", "pool"] [0] F__law_sorting_stands) (C__law_lists_stand : Cal P w K mg base 42 "_law_lists_stand" ["letters", "many", "total", "due"] [] F__law_lists_stand) (C__law_is_truth : Cal P w K mg base 1 "_law_is_truth" ["told", "due"] [] F__law_is_truth) (C_model_key : Cal P w K mg base 2 "model_key" ["words"] [] F_model_key) (C__law_order : Cal P w K mg base 1 "_law_order" ["row"] [] F__law_order) (C_shortlex_less : Cal P w K mg base 2 "shortlex_less" ["word", "other"] [] F_shortlex_less) (C__law_in_shortlex : Cal P w K mg base 3 "_law_in_shortlex" ["one", "other"] [] F__law_in_shortlex) (C_dictionary_less : Cal P w K mg base 1 "dictionary_less" ["word", "other"] [] F_dictionary_less) (C__law_in_dictionary : Cal P w K mg base 2 "_law_in_dictionary" ["one", "other"] [] F__law_in_dictionary) (D : Dfn K mg "law" s_law ["script"]) : Cal P w K mg base 43 "law" ["script"] [] F_law :=
  D.cal (N := ["script", "d", "size", "letters", "many", "room", "total", "other", "due", "due_of_other", "one", "two"]) sc_law (by decide) fun f cdv A outer s H E hr =>
    (wss_cons (ws_set 1 (by decide) sc_law.nd (C__law_begin.we hr (by decide) rfl (was_slot (pv 0) was_nil)))
    (wss_cons (ws_set 2 (by decide) sc_law.nd (we_bin p_add wf_int (WE.wo (C__law_draw.we hr (by decide) rfl (was_slot (pv 1) (was_val wf_int was_nil))))))
    (wss_cons (ws_set 3 (by decide) sc_law.nd (C__law_alphabet.we hr (by decide) rfl (was_slot (pv 1) (was_slot (pv 2) was_nil))))
    (wss_cons (ws_set 4 (by decide) sc_law.nd (C__law_draw.we hr (by decide) rfl (was_slot (pv 1) (was_val wf_int was_nil))))
    (wss_cons (ws_set 5 (by decide) sc_law.nd (we_ix (p_ix hr.u1) (WE.wf (we_lst (wl_cons wf_int (wl_cons wf_int (wl_cons wf_int (wl_cons wf_int wl_nil)))))) (WE.wo (we_binv p_sub (pv 2) (WF.wo wf_int)))))
    (wss_cons (ws_set 6 (by decide) sc_law.nd (C__law_draw.we hr (by decide) rfl (was_slot (pv 1) (was_slot (pv 5) was_nil))))
    (wss_cons (ws_set 7 (by decide) sc_law.nd (C__law_draw.we hr (by decide) rfl (was_slot (pv 1) (was_slot (pv 5) was_nil))))
    (wss_cons (ws_set 8 (by decide) sc_law.nd (C__law_all_tuples.we hr (by decide) rfl (was_slot (pv 3) (was_slot (pv 4) (was_slot (pv 6) was_nil)))))
    (wss_cons (ws_set 9 (by decide) sc_law.nd (C__law_all_tuples.we hr (by decide) rfl (was_slot (pv 3) (was_slot (pv 4) (was_slot (pv 7) was_nil)))))
    (wss_cons (ws_if (WW.wt (ww_or (wt_not (wt_truth (WE.wo (C__law_lists_stand.we hr (by decide) rfl (was_slot (pv 3) (was_slot (pv 4) (was_slot (pv 6) (was_slot (pv 8) was_nil)))))))) (ww_or1 (wt_not (wt_truth (WE.wo (C__law_lists_stand.we hr (by decide) rfl (was_slot (pv 3) (was_slot (pv 4) (was_slot (pv 7) (was_slot (pv 9) was_nil))))))))))) (wss_one (ws_ret (WF.we wf_bl))) wss_nil)
    (wss_cons (ws_if (wt_not (wt_truth (WE.wo (C__law_sorting_stands.we hr (by decide) rfl (was_slot (pv 1) (was_val (WE.wf (we_binv p_add (pv 8) (wo_var 9))) was_nil)))))) (wss_one (ws_ret (WF.we wf_bl))) wss_nil)
    (wss_cons (ws_for PassesOwn.never rfl (by decide) (wi_any (WE.wf (C__law_pairs.we hr (by decide) rfl (was_slot (pv 1) (was_slot (pv 3) was_nil))))) (wg_tup rfl (wgs_cons (wg_name 10 sc_law.nd) (wgs_cons (wg_name 11 sc_law.nd) wgs_nil)) rfl rfl (fun _ _ _ h => putCons_len (fun _ _ _ h => putCons_len (fun _ _ _ h => putNil_len h) h) h)) (wss_cons (ws_if (wt_not (wt_truth (WE.wo (C__law_is_truth.we hr (by decide) rfl (was_val (WE.wf (C_shortlex_less.we hr (by decide) rfl (was_slot (pv 10) (was_slot (pv 11) was_nil)))) (was_val (WE.wf (C__law_in_shortlex.we hr (by decide) rfl (was_slot (pv 10) (was_slot (pv 11) was_nil)))) was_nil)))))) (wss_one (ws_ret (WF.we wf_bl))) wss_nil)
    (wss_cons (ws_if (wt_not (wt_truth (WE.wo (C__law_is_truth.we hr (by decide) rfl (was_val (WE.wf (C_dictionary_less.we hr (by decide) rfl (was_slot (pv 10) (was_slot (pv 11) was_nil)))) (was_val (WE.wf (C__law_in_dictionary.we hr (by decide) rfl (was_slot (pv 10) (was_slot (pv 11) was_nil)))) was_nil)))))) (wss_one (ws_ret (WF.we wf_bl))) wss_nil)
    (wss_one (ws_if (wt_cmp (p_ne hr.u64) (WE.wf (we_sortKey C_model_key hr (by decide) rfl T.b_sorted rfl (WE.wo (we_lst (wl_cons (WE.wf (we_tup (wl_cons (wf_var 10) wl_nil))) (wl_cons (WE.wf (we_tup (wl_cons (wf_var 11) wl_nil))) wl_nil)))))) (WE.wo (we_sortKey C__law_order hr (by decide) rfl T.b_sorted rfl (WE.wo (we_lst (wl_cons (WE.wf (we_tup (wl_cons (wf_var 10) wl_nil))) (wl_cons (WE.wf (we_tup (wl_cons (wf_var 11) wl_nil))) wl_nil))))))) (wss_one (ws_ret (WF.we wf_bl))) wss_nil)))))
    (wss_one (ws_ret (WF.we wf_bl)))))))))))))))
end
theorem all_ok {l : PySem.W.OpenLaw} {w : World} {K : PySem.W.Frag} {mg : Str → Option Value} {base : Heap} (T : Bl mg)
    (D__law_begin : Dfn K mg "_law_begin" s__law_begin ["script"])
    (D__law_draw : Dfn K mg "_law_draw" s__law_draw ["d", "many"])
    (D__law_pop : Dfn K mg "_law_pop" s__law_pop ["d", "row"])
    (D__law_alphabet : Dfn K mg "_law_alphabet" s__law_alphabet ["d", "many"])
    (D__law_cuts : Dfn K mg "_law_cuts" s__law_cuts ["size", "many"])
    (D__law_order : Dfn K mg "_law_order" s__law_order ["row"])
    (D__law_words : Dfn K mg "_law_words" s__law_words ["letters", "most"])
    (D__law_cut : Dfn K mg "_law_cut" s__law_cut ["word", "row"])
    (D__law_all_tuples : Dfn K mg "_law_all_tuples" s__law_all_tuples ["letters", "many", "total"])
    (D__law_word : Dfn K mg "_law_word" s__law_word ["d", "letters", "most"])
    (D__law_pick : Dfn K mg "_law_pick" s__law_pick ["d", "row"])
    (D__law_pairs : Dfn K mg "_law_pairs" s__law_pairs ["d", "letters"])
    (D_word_key : Dfn K mg "word_key" s_word_key ["word"])
    (D_model_key : Dfn K mg "model_key" s_model_key ["words"])
    (D__law_sorting_stands : Dfn K mg "_law_sorting_stands" s__law_sorting_stands ["d", "pool"])
    (D_words_of_length : Dfn K mg "words_of_length" s_words_of_length ["letters", "length"])
    (D_word_tuples : Dfn K mg "word_tuples" s_word_tuples ["letters", "many", "total"])
    (D__law_are_tuples : Dfn K mg "_law_are_tuples" s__law_are_tuples ["told", "due"])
    (D__law_lists_stand : Dfn K mg "_law_lists_stand" s__law_lists_stand ["letters", "many", "total", "due"])
    (D__law_is_truth : Dfn K mg "_law_is_truth" s__law_is_truth ["told", "due"])
    (D_shortlex_less : Dfn K mg "shortlex_less" s_shortlex_less ["word", "other"])
    (D__law_first_unlike : Dfn K mg "_law_first_unlike" s__law_first_unlike ["one", "other"])
    (D__law_in_dictionary : Dfn K mg "_law_in_dictionary" s__law_in_dictionary ["one", "other"])
    (D__law_in_shortlex : Dfn K mg "_law_in_shortlex" s__law_in_shortlex ["one", "other"])
    (D_dictionary_less : Dfn K mg "dictionary_less" s_dictionary_less ["word", "other"])
    (D_law : Dfn K mg "law" s_law ["script"])
    : Cal l.prog w K mg base 43 "law" ["script"] [] F_law := by
  have C__law_begin := ok__law_begin (P := l.prog) (w := w) (base := base) T  D__law_begin
  have C__law_draw := ok__law_draw (P := l.prog) (w := w) (base := base) T  D__law_draw
  have C__law_pop := ok__law_pop (P := l.prog) (w := w) (base := base) T C__law_draw D__law_pop
  have C__law_alphabet := ok__law_alphabet (P := l.prog) (w := w) (base := base) T C__law_pop D__law_alphabet
  have C__law_cuts := ok__law_cuts (P := l.prog) (w := w) (base := base) T  D__law_cuts
  have C__law_order := ok__law_order (P := l.prog) (w := w) (base := base) T  D__law_order
  have C__law_words := ok__law_words (P := l.prog) (w := w) (base := base) T  D__law_words
  have C__law_cut := ok__law_cut (P := l.prog) (w := w) (base := base) T  D__law_cut
  have C__law_all_tuples := ok__law_all_tuples (P := l.prog) (w := w) (base := base) T C__law_cuts C__law_order C__law_words C__law_cut D__law_all_tuples
  have C__law_word := ok__law_word (P := l.prog) (w := w) (base := base) T C__law_draw D__law_word
  have C__law_pick := ok__law_pick (P := l.prog) (w := w) (base := base) T C__law_draw D__law_pick
  have C__law_pairs := ok__law_pairs (P := l.prog) (w := w) (base := base) T C__law_word C__law_draw C__law_pick D__law_pairs
  have C_word_key := ok_word_key (P := l.prog) (w := w) (base := base) T  D_word_key
  have C_model_key := ok_model_key (P := l.prog) (w := w) (base := base) T C_word_key D_model_key
  have C__law_sorting_stands := ok__law_sorting_stands (P := l.prog) (w := w) (base := base) T C__law_order C__law_draw C__law_pick C_model_key D__law_sorting_stands
  have C_words_of_length := ok_words_of_length (P := l.prog) (w := w) (base := base) T  D_words_of_length
  have C_word_tuples := ok_word_tuples (P := l.prog) (w := w) (base := base) T C_words_of_length D_word_tuples
  have C__law_are_tuples := ok__law_are_tuples (P := l.prog) (w := w) (base := base) T  D__law_are_tuples
  have C__law_lists_stand := ok__law_lists_stand (P := l.prog) (w := w) (base := base) T C_word_tuples C__law_are_tuples D__law_lists_stand
  have C__law_is_truth := ok__law_is_truth (P := l.prog) (w := w) (base := base) T  D__law_is_truth
  have C_shortlex_less := ok_shortlex_less (P := l.prog) (w := w) (base := base) T C_word_key D_shortlex_less
  have C__law_first_unlike := ok__law_first_unlike (P := l.prog) (w := w) (base := base) T  D__law_first_unlike
  have C__law_in_dictionary := ok__law_in_dictionary (P := l.prog) (w := w) (base := base) T C__law_first_unlike D__law_in_dictionary
  have C__law_in_shortlex := ok__law_in_shortlex (P := l.prog) (w := w) (base := base) T C__law_in_dictionary D__law_in_shortlex
  have C_dictionary_less := ok_dictionary_less (P := l.prog) (w := w) (base := base) T  D_dictionary_less
  have C_law := ok_law (P := l.prog) (w := w) (base := base) T C__law_begin C__law_alphabet C__law_draw C__law_all_tuples C__law_pairs C__law_sorting_stands C__law_lists_stand C__law_is_truth C_model_key C__law_order C_shortlex_less C__law_in_shortlex C_dictionary_less C__law_in_dictionary D_law
  exact C_law
end MC.Law
set_option Elab.async false
set_option linter.all false
set_option maxRecDepth 100000
set_option maxHeartbeats 4000000
namespace MC.Law
open PySem
/-- the drawing state -/
def Dr (cs : List Int) (a b c e : Int) : PV := .lst [.lst (cs.map .int), .int a, .int b, .int c, .int e]
def IsDr (x : PV) : Prop := ∃ cs a b c e, x = Dr cs a b c e ∧ 0 ≤ a
theorem mod_lt {i j : Int} (h : 0 < j) : 0 ≤ i.fmod j ∧ i.fmod j < j := ⟨Int.fmod_nonneg_of_pos i h, Int.fmod_lt_of_pos i h⟩
theorem lc1__law_begin_run (ns : List Int) (hn : ns.length ≤ 63) : lc1__law_begin [some (false, .sq true (ns.map .int)), none] = some ((true, .lst (ns.map .int)), [some (false, .sq true (ns.map .int)), none]) := by
  have lp : lcLoop [1] (put 1 false) (pure true) (asF (un1 (look 1) intP)) (ns.map PV.int) [some (false, .sq true (ns.map .int)), none] = some (((ns.map PV.int).filter fun _ => true).map id, [some (false, .sq true (ns.map .int)), none]) :=
    lcLoop_pure (fun _ => true) id _ fun x hx => by
      obtain ⟨i, _, rfl⟩ := List.mem_map.mp hx
      exact ⟨_, rfl, fun _ => ⟨_, rfl, rfl⟩, fun z => nomatch z⟩
  have fl1 : fits ns.length = true := fits_of (by omega)
  unfold lc1__law_begin lcM
  refine bind_of (a := ns.map PV.int) (ρ' := [some (false, .sq true (ns.map .int)), none]) rfl ?_
  refine bind_of (a := ns.map PV.int) (ρ' := [some (false, .sq true (ns.map .int)), none]) ?_ ?_
  · unfold within
    simp only [clear, List.set]
    rw [lp]
    simp [restore, plainAt]
  · simp [fl1, bind_run, pure_run, lift_run, ite_run, bad_run, fnOf, runF, argE, seqM, ifM, asT, bin2, bin2v, un1, unL, asF, setM, setIxM, augIxM, augM, retM, giveM, dropM, look, take, put, frz1, ownsAny, owns, store, change, mutM, onL, isB, truM, truP, MC.notM, MC.andM, MC.orM, chain, tupM, lstM, consM, outs, callM, valM, slotM, argSlots, frzS, resolve, ioSlots, setIo, itemsM, itemsOf, PV.flat, isi_int_int, isi_int_bool, isi_int_str, isi_int_tuple, isi_int_list, isi_str_int, isi_str_bool, isi_str_str, isi_str_tuple, isi_str_list, isi_tuple_int, isi_tuple_bool, isi_tuple_str, isi_tuple_tuple, isi_tuple_list, isi_list_int, isi_list_bool, isi_list_str, isi_list_tuple, isi_list_list, isi_NoneType_int, isi_NoneType_bool, isi_NoneType_str, isi_NoneType_tuple, isi_NoneType_list, isi_bool_int, isi_bool_bool, isi_bool_str, isi_bool_tuple, isi_bool_list, strM, eqP_bb, neP_bb, andV, orV, notV, slM, slMv, asInt, str_len, addP_ii, addP_ib, addP_ss, addP_ll, addP_tt, iaddP_ii, subP_ii, mulP_ii, mulP_si, fdivP_ii, modP_ii, negP_i, absP_i, intP_i, intP_b, ltP_ii, leP_ii, gtP_ii, geP_ii, ltP_ss, leP_ss, gtP_ss, geP_ss, eqP_ii, eqP_ss, neP_ii, neP_ss, isP_b, isNotP_b, inP_1, notInP_1, lenP_s, lenP_l, lenP_t, lenP_q, listP_s, listP_l, listP_t, tupleP_l, tupleP_t, ixP_l, ixP_t, ixP_q, ixP_s, atI_nat, atI_2, atI_3, atI_4, atI_0, atI_1, atI_last, setV_l, getV_l, ixN_nat, ixN_2, ixN_3, ixN_4, ixN_0, ixN_1, popP_n, appendP_1, extendP_l, slP_to, slP_from, slP_tto, slP_tfrom, slP_lto, slP_lfrom, MC.when, fl]
theorem begin_ok (ns : List Int) (hn : ns.length ≤ 63) : F__law_begin [.sq true (ns.map .int)] = some ((true, Dr ns 0 0 7 0), []) := by
  have fl2 : fits 5 = true := fits_of (by omega)
  simp -implicitDefEqProofs [F__law_begin, sem__law_begin, Dr, lc1__law_begin_run, hn, fl2, bind_run, pure_run, lift_run, ite_run, bad_run, fnOf, runF, argE, seqM, ifM, asT, bin2, bin2v, un1, unL, asF, setM, setIxM, augIxM, augM, retM, giveM, dropM, look, take, put, frz1, ownsAny, owns, store, change, mutM, onL, isB, truM, truP, MC.notM, MC.andM, MC.orM, chain, tupM, lstM, consM, outs, callM, valM, slotM, argSlots, frzS, resolve, ioSlots, setIo, itemsM, itemsOf, PV.flat, isi_int_int, isi_int_bool, isi_int_str, isi_int_tuple, isi_int_list, isi_str_int, isi_str_bool, isi_str_str, isi_str_tuple, isi_str_list, isi_tuple_int, isi_tuple_bool, isi_tuple_str, isi_tuple_tuple, isi_tuple_list, isi_list_int, isi_list_bool, isi_list_str, isi_list_tuple, isi_list_list, isi_NoneType_int, isi_NoneType_bool, isi_NoneType_str, isi_NoneType_tuple, isi_NoneType_list, isi_bool_int, isi_bool_bool, isi_bool_str, isi_bool_tuple, isi_bool_list, strM, eqP_bb, neP_bb, andV, orV, notV, slM, slMv, asInt, str_len, addP_ii, addP_ib, addP_ss, addP_ll, addP_tt, iaddP_ii, subP_ii, mulP_ii, mulP_si, fdivP_ii, modP_ii, negP_i, absP_i, intP_i, intP_b, ltP_ii, leP_ii, gtP_ii, geP_ii, ltP_ss, leP_ss, gtP_ss, geP_ss, eqP_ii, eqP_ss, neP_ii, neP_ss, isP_b, isNotP_b, inP_1, notInP_1, lenP_s, lenP_l, lenP_t, lenP_q, listP_s, listP_l, listP_t, tupleP_l, tupleP_t, ixP_l, ixP_t, ixP_q, ixP_s, atI_nat, atI_2, atI_3, atI_4, atI_0, atI_1, atI_last, setV_l, getV_l, ixN_nat, ixN_2, ixN_3, ixN_4, ixN_0, ixN_1, popP_n, appendP_1, extendP_l, slP_to, slP_from, slP_tto, slP_tfrom, slP_lto, slP_lfrom, MC.when, fl]
def stir (c size : Int) (n : Nat) : Int := (c * 48271 + size.fmod 2147483629 * 16807 + ((n : Int) + 1) * 69621 + 11).fmod 2147483647
theorem shl_big : ∃ N : Int, N ≠ 0 ∧ shlP (.int 1) (.int 6000) = some (false, .int N) := by
  have ps : powOk 1 6000 = true := by decide
  refine ⟨1 * 2 ^ (6000 : Int).toNat, ?_, ?_⟩
  · rw [Int.one_mul]
    exact Int.ne_of_gt (Int.pow_pos (by decide))
  · show MC.when (powOk 1 6000) _ = _
    rw [ps]
    rfl
section
variable {many c b e : Int} {cs : List Int} {n : Nat}
theorem m1 (x : Int) : mulOk 2 x = true := by unfold mulOk; simp
theorem m2 (x : Int) : mulOk x 48271 = true := by unfold mulOk; simp
theorem m3 (x : Int) : mulOk x 16807 = true := by unfold mulOk; simp
theorem m4 (x : Int) : mulOk x 69621 = true := by unfold mulOk; simp
theorem d2 : divOk 2 = true := by decide
theorem d16 : divOk 16 = true := by decide
theorem big_pow : powP (.int 10) (.int 18) = some (false, .int 1000000000000000000) := rfl
theorem ba (x : Bool) : PyProof.Rows.b2i x = if x = true then 1 else 0 := by cases x <;> rfl
theorem vx_run {cs : PV} {b c e size many : Int} {n : Int} {x2 x4} : vx1__law_draw [some (true, .lst [cs, .int n, .int b, .int c, .int e]), some (false, .int many), x2, some (false, .int size), x4] =
   some (.int ((c * 48271 + size.fmod 2147483629 * 16807 + n * 69621 + 11).fmod 2147483647), [some (true, .lst [cs, .int n, .int b, .int c, .int e]), some (false, .int many), x2, some (false, .int size), x4]) := by
  simp -implicitDefEqProofs [vx1__law_draw, m2, m3, m4, bind_run, pure_run, lift_run, ite_run, bad_run, fnOf, runF, argE, seqM, ifM, asT, bin2, bin2v, un1, unL, asF, setM, setIxM, augIxM, augM, retM, giveM, dropM, look, take, put, frz1, ownsAny, owns, store, change, mutM, onL, isB, truM, truP, MC.notM, MC.andM, MC.orM, chain, tupM, lstM, consM, outs, callM, valM, slotM, argSlots, frzS, resolve, ioSlots, setIo, itemsM, itemsOf, PV.flat, isi_int_int, isi_int_bool, isi_int_str, isi_int_tuple, isi_int_list, isi_str_int, isi_str_bool, isi_str_str, isi_str_tuple, isi_str_list, isi_tuple_int, isi_tuple_bool, isi_tuple_str, isi_tuple_tuple, isi_tuple_list, isi_list_int, isi_list_bool, isi_list_str, isi_list_tuple, isi_list_list, isi_NoneType_int, isi_NoneType_bool, isi_NoneType_str, isi_NoneType_tuple, isi_NoneType_list, isi_bool_int, isi_bool_bool, isi_bool_str, isi_bool_tuple, isi_bool_list, strM, eqP_bb, neP_bb, andV, orV, notV, slM, slMv, asInt, str_len, addP_ii, addP_ib, addP_ss, addP_ll, addP_tt, iaddP_ii, subP_ii, mulP_ii, mulP_si, fdivP_ii, modP_ii, negP_i, absP_i, intP_i, intP_b, ltP_ii, leP_ii, gtP_ii, geP_ii, ltP_ss, leP_ss, gtP_ss, geP_ss, eqP_ii, eqP_ss, neP_ii, neP_ss, isP_b, isNotP_b, inP_1, notInP_1, lenP_s, lenP_l, lenP_t, lenP_q, listP_s, listP_l, listP_t, tupleP_l, tupleP_t, ixP_l, ixP_t, ixP_q, ixP_s, atI_nat, atI_2, atI_3, atI_4, atI_0, atI_1, atI_last, setV_l, getV_l, ixN_nat, ixN_2, ixN_3, ixN_4, ixN_0, ixN_1, popP_n, appendP_1, extendP_l, slP_to, slP_from, slP_tto, slP_tfrom, slP_lto, slP_lfrom, MC.when, fl]
theorem draw1 (hb : 0 < b) (dv : divOk many = true) (nz : many ≠ 0) : F__law_draw [Dr cs n b c e, .int many] = some ((false, .int (b.fmod many)), [Dr cs n (b.fdiv many) c e]) := by
  simp -implicitDefEqProofs [F__law_draw, sem__law_draw, Dr, hb, dv, nz, bind_run, pure_run, lift_run, ite_run, bad_run, fnOf, runF, argE, seqM, ifM, asT, bin2, bin2v, un1, unL, asF, setM, setIxM, augIxM, augM, retM, giveM, dropM, look, take, put, frz1, ownsAny, owns, store, change, mutM, onL, isB, truM, truP, MC.notM, MC.andM, MC.orM, chain, tupM, lstM, consM, outs, callM, valM, slotM, argSlots, frzS, resolve, ioSlots, setIo, itemsM, itemsOf, PV.flat, isi_int_int, isi_int_bool, isi_int_str, isi_int_tuple, isi_int_list, isi_str_int, isi_str_bool, isi_str_str, isi_str_tuple, isi_str_list, isi_tuple_int, isi_tuple_bool, isi_tuple_str, isi_tuple_tuple, isi_tuple_list, isi_list_int, isi_list_bool, isi_list_str, isi_list_tuple, isi_list_list, isi_NoneType_int, isi_NoneType_bool, isi_NoneType_str, isi_NoneType_tuple, isi_NoneType_list, isi_bool_int, isi_bool_bool, isi_bool_str, isi_bool_tuple, isi_bool_list, strM, eqP_bb, neP_bb, andV, orV, notV, slM, slMv, asInt, str_len, addP_ii, addP_ib, addP_ss, addP_ll, addP_tt, iaddP_ii, subP_ii, mulP_ii, mulP_si, fdivP_ii, modP_ii, negP_i, absP_i, intP_i, intP_b, ltP_ii, leP_ii, gtP_ii, geP_ii, ltP_ss, leP_ss, gtP_ss, geP_ss, eqP_ii, eqP_ss, neP_ii, neP_ss, isP_b, isNotP_b, inP_1, notInP_1, lenP_s, lenP_l, lenP_t, lenP_q, listP_s, listP_l, listP_t, tupleP_l, tupleP_t, ixP_l, ixP_t, ixP_q, ixP_s, atI_nat, atI_2, atI_3, atI_4, atI_0, atI_1, atI_last, setV_l, getV_l, ixN_nat, ixN_2, ixN_3, ixN_4, ixN_0, ixN_1, popP_n, appendP_1, extendP_l, slP_to, slP_from, slP_tto, slP_tfrom, slP_lto, slP_lfrom, MC.when, fl]
theorem draw2 {size N : Int} (hb : ¬ 0 < b) (dv : divOk many = true) (nz : many ≠ 0) (hn : n < cs.length) (hz : 2 * (if cs[n] < 0 then -cs[n] else cs[n]) + (if cs[n] < 0 then 1 else 0) = size) (hs : 2000000000000000000 ≤ size) (p6 : N ≠ 0) (ps : shlP (.int 1) (.int 6000) = some (false, .int N)) :
    F__law_draw [Dr cs n b c e, .int many] = some ((false, .int (((size.fdiv 2).fmod N).fmod many)), [Dr cs (n + 1) (((size.fdiv 2).fmod N).fdiv many) c e]) := by
  simp -implicitDefEqProofs [F__law_draw, sem__law_draw, Dr, hb, dv, nz, hn, hs, hz, m1, vx_run, d2, d16, big_pow, ps, p6, absP, ba, bind_run, pure_run, lift_run, ite_run, bad_run, fnOf, runF, argE, seqM, ifM, asT, bin2, bin2v, un1, unL, asF, setM, setIxM, augIxM, augM, retM, giveM, dropM, look, take, put, frz1, ownsAny, owns, store, change, mutM, onL, isB, truM, truP, MC.notM, MC.andM, MC.orM, chain, tupM, lstM, consM, outs, callM, valM, slotM, argSlots, frzS, resolve, ioSlots, setIo, itemsM, itemsOf, PV.flat, isi_int_int, isi_int_bool, isi_int_str, isi_int_tuple, isi_int_list, isi_str_int, isi_str_bool, isi_str_str, isi_str_tuple, isi_str_list, isi_tuple_int, isi_tuple_bool, isi_tuple_str, isi_tuple_tuple, isi_tuple_list, isi_list_int, isi_list_bool, isi_list_str, isi_list_tuple, isi_list_list, isi_NoneType_int, isi_NoneType_bool, isi_NoneType_str, isi_NoneType_tuple, isi_NoneType_list, isi_bool_int, isi_bool_bool, isi_bool_str, isi_bool_tuple, isi_bool_list, strM, eqP_bb, neP_bb, andV, orV, notV, slM, slMv, asInt, str_len, addP_ii, addP_ib, addP_ss, addP_ll, addP_tt, iaddP_ii, subP_ii, mulP_ii, mulP_si, fdivP_ii, modP_ii, negP_i, absP_i, intP_i, intP_b, ltP_ii, leP_ii, gtP_ii, geP_ii, ltP_ss, leP_ss, gtP_ss, geP_ss, eqP_ii, eqP_ss, neP_ii, neP_ss, isP_b, isNotP_b, inP_1, notInP_1, lenP_s, lenP_l, lenP_t, lenP_q, listP_s, listP_l, listP_t, tupleP_l, tupleP_t, ixP_l, ixP_t, ixP_q, ixP_s, atI_nat, atI_2, atI_3, atI_4, atI_0, atI_1, atI_last, setV_l, getV_l, ixN_nat, ixN_2, ixN_3, ixN_4, ixN_0, ixN_1, popP_n, appendP_1, extendP_l, slP_to, slP_from, slP_tto, slP_tfrom, slP_lto, slP_lfrom, MC.when, fl]
theorem draw3 {size : Int} (hb : ¬ 0 < b) (dv : divOk many = true) (nz : many ≠ 0) (hn : n < cs.length) (hz : 2 * (if cs[n] < 0 then -cs[n] else cs[n]) + (if cs[n] < 0 then 1 else 0) = size) (hs : ¬ 2000000000000000000 ≤ size) :
    F__law_draw [Dr cs n b c e, .int many] = some ((false, .int (((stir c size n).fdiv 16).fmod many)), [Dr cs (n + 1) b (stir c size n) e]) := by
  simp -implicitDefEqProofs [F__law_draw, sem__law_draw, Dr, stir, hb, dv, nz, hn, hs, hz, m1, vx_run, d2, d16, big_pow, absP, ba, bind_run, pure_run, lift_run, ite_run, bad_run, fnOf, runF, argE, seqM, ifM, asT, bin2, bin2v, un1, unL, asF, setM, setIxM, augIxM, augM, retM, giveM, dropM, look, take, put, frz1, ownsAny, owns, store, change, mutM, onL, isB, truM, truP, MC.notM, MC.andM, MC.orM, chain, tupM, lstM, consM, outs, callM, valM, slotM, argSlots, frzS, resolve, ioSlots, setIo, itemsM, itemsOf, PV.flat, isi_int_int, isi_int_bool, isi_int_str, isi_int_tuple, isi_int_list, isi_str_int, isi_str_bool, isi_str_str, isi_str_tuple, isi_str_list, isi_tuple_int, isi_tuple_bool, isi_tuple_str, isi_tuple_tuple, isi_tuple_list, isi_list_int, isi_list_bool, isi_list_str, isi_list_tuple, isi_list_list, isi_NoneType_int, isi_NoneType_bool, isi_NoneType_str, isi_NoneType_tuple, isi_NoneType_list, isi_bool_int, isi_bool_bool, isi_bool_str, isi_bool_tuple, isi_bool_list, strM, eqP_bb, neP_bb, andV, orV, notV, slM, slMv, asInt, str_len, addP_ii, addP_ib, addP_ss, addP_ll, addP_tt, iaddP_ii, subP_ii, mulP_ii, mulP_si, fdivP_ii, modP_ii, negP_i, absP_i, intP_i, intP_b, ltP_ii, leP_ii, gtP_ii, geP_ii, ltP_ss, leP_ss, gtP_ss, geP_ss, eqP_ii, eqP_ss, neP_ii, neP_ss, isP_b, isNotP_b, inP_1, notInP_1, lenP_s, lenP_l, lenP_t, lenP_q, listP_s, listP_l, listP_t, tupleP_l, tupleP_t, ixP_l, ixP_t, ixP_q, ixP_s, atI_nat, atI_2, atI_3, atI_4, atI_0, atI_1, atI_last, setV_l, getV_l, ixN_nat, ixN_2, ixN_3, ixN_4, ixN_0, ixN_1, popP_n, appendP_1, extendP_l, slP_to, slP_from, slP_tto, slP_tfrom, slP_lto, slP_lfrom, MC.when, fl]
theorem draw4 (hb : ¬ 0 < b) (dv : divOk many = true) (nz : many ≠ 0) (hn : ¬ n < cs.length) :
    F__law_draw [Dr cs n b c e, .int many] = some ((false, .int (((stir c 0 n).fdiv 16).fmod many)), [Dr cs (n + 1) b (stir c 0 n) e]) := by
  simp -implicitDefEqProofs [F__law_draw, sem__law_draw, Dr, stir, hb, dv, nz, hn, m1, vx_run, d2, d16, big_pow, absP, ba, bind_run, pure_run, lift_run, ite_run, bad_run, fnOf, runF, argE, seqM, ifM, asT, bin2, bin2v, un1, unL, asF, setM, setIxM, augIxM, augM, retM, giveM, dropM, look, take, put, frz1, ownsAny, owns, store, change, mutM, onL, isB, truM, truP, MC.notM, MC.andM, MC.orM, chain, tupM, lstM, consM, outs, callM, valM, slotM, argSlots, frzS, resolve, ioSlots, setIo, itemsM, itemsOf, PV.flat, isi_int_int, isi_int_bool, isi_int_str, isi_int_tuple, isi_int_list, isi_str_int, isi_str_bool, isi_str_str, isi_str_tuple, isi_str_list, isi_tuple_int, isi_tuple_bool, isi_tuple_str, isi_tuple_tuple, isi_tuple_list, isi_list_int, isi_list_bool, isi_list_str, isi_list_tuple, isi_list_list, isi_NoneType_int, isi_NoneType_bool, isi_NoneType_str, isi_NoneType_tuple, isi_NoneType_list, isi_bool_int, isi_bool_bool, isi_bool_str, isi_bool_tuple, isi_bool_list, strM, eqP_bb, neP_bb, andV, orV, notV, slM, slMv, asInt, str_len, addP_ii, addP_ib, addP_ss, addP_ll, addP_tt, iaddP_ii, subP_ii, mulP_ii, mulP_si, fdivP_ii, modP_ii, negP_i, absP_i, intP_i, intP_b, ltP_ii, leP_ii, gtP_ii, geP_ii, ltP_ss, leP_ss, gtP_ss, geP_ss, eqP_ii, eqP_ss, neP_ii, neP_ss, isP_b, isNotP_b, inP_1, notInP_1, lenP_s, lenP_l, lenP_t, lenP_q, listP_s, listP_l, listP_t, tupleP_l, tupleP_t, ixP_l, ixP_t, ixP_q, ixP_s, atI_nat, atI_2, atI_3, atI_4, atI_0, atI_1, atI_last, setV_l, getV_l, ixN_nat, ixN_2, ixN_3, ixN_4, ixN_0, ixN_1, popP_n, appendP_1, extendP_l, slP_to, slP_from, slP_tto, slP_tfrom, slP_lto, slP_lfrom, MC.when, fl]
end
theorem draw_ok {d : PV} {many : Int} (hd : IsDr d) (h0 : 0 < many) (h1 : many < 1073741824) : ∃ r d', F__law_draw [d, .int many] = some ((false, .int r), [d']) ∧ 0 ≤ r ∧ r < many ∧ IsDr d' := by
  obtain ⟨cs, a, b, c, e, rfl, ha⟩ := hd
  obtain ⟨n, rfl⟩ := Int.eq_ofNat_of_zero_le ha
  have dv : divOk many = true := by unfold divOk; simp; left; omega
  have nz : many ≠ 0 := by omega
  obtain ⟨N, p6, ps⟩ := shl_big
  by_cases hb : 0 < b
  · exact ⟨_, _, draw1 hb dv nz, (mod_lt h0).1, (mod_lt h0).2, ⟨_, _, _, _, _, rfl, ha⟩⟩
  · by_cases hn : n < cs.length
    · by_cases hs : 2000000000000000000 ≤ 2 * (if cs[n] < 0 then -cs[n] else cs[n]) + (if cs[n] < 0 then 1 else 0)
      · exact ⟨_, _, draw2 hb dv nz hn rfl hs p6 ps, (mod_lt h0).1, (mod_lt h0).2, ⟨_, _, _, _, _, rfl, by omega⟩⟩
      · exact ⟨_, _, draw3 hb dv nz hn rfl hs, (mod_lt h0).1, (mod_lt h0).2, ⟨_, _, _, _, _, rfl, by omega⟩⟩
    · exact ⟨_, _, draw4 hb dv nz hn, (mod_lt h0).1, (mod_lt h0).2, ⟨_, _, _, _, _, rfl, by omega⟩⟩
end MC.Law
set_option Elab.async false
set_option linter.all false
set_option maxRecDepth 100000
set_option maxHeartbeats 4000000
namespace MC.Law
open PySem
theorem pick_s {d : PV} {a : List Nat} (hd : IsDr d) (h0 : a ≠ []) (h1 : a.length < 1000) : ∃ c d', F__law_pick [d, .str ⟨⟨a⟩⟩] = some ((false, .str ⟨⟨[c]⟩⟩), [d']) ∧ c ∈ a ∧ IsDr d' := by
  have lp : 0 < a.length := List.length_pos_iff.mpr h0
  obtain ⟨r, d', e, r0, r1, hd'⟩ := draw_ok hd (many := a.length) (by omega) (by omega)
  obtain ⟨n, rfl⟩ := Int.eq_ofNat_of_zero_le r0
  have hn : n < a.length := by omega
  have hf : fits a.length = true := fits_of (by omega)
  exact ⟨a[n], d', by simp -implicitDefEqProofs [F__law_pick, sem__law_pick, hf, e, hn, bind_run, pure_run, lift_run, ite_run, bad_run, fnOf, runF, argE, seqM, ifM, asT, bin2, bin2v, un1, unL, asF, setM, setIxM, augIxM, augM, retM, giveM, dropM, look, take, put, frz1, ownsAny, owns, store, change, mutM, onL, isB, truM, truP, MC.notM, MC.andM, MC.orM, chain, tupM, lstM, consM, outs, callM, valM, slotM, argSlots, frzS, resolve, ioSlots, setIo, itemsM, itemsOf, PV.flat, isi_int_int, isi_int_bool, isi_int_str, isi_int_tuple, isi_int_list, isi_str_int, isi_str_bool, isi_str_str, isi_str_tuple, isi_str_list, isi_tuple_int, isi_tuple_bool, isi_tuple_str, isi_tuple_tuple, isi_tuple_list, isi_list_int, isi_list_bool, isi_list_str, isi_list_tuple, isi_list_list, isi_NoneType_int, isi_NoneType_bool, isi_NoneType_str, isi_NoneType_tuple, isi_NoneType_list, isi_bool_int, isi_bool_bool, isi_bool_str, isi_bool_tuple, isi_bool_list, strM, eqP_bb, neP_bb, andV, orV, notV, slM, slMv, asInt, str_len, addP_ii, addP_ib, addP_ss, addP_ll, addP_tt, iaddP_ii, subP_ii, mulP_ii, mulP_si, fdivP_ii, modP_ii, negP_i, absP_i, intP_i, intP_b, ltP_ii, leP_ii, gtP_ii, geP_ii, ltP_ss, leP_ss, gtP_ss, geP_ss, eqP_ii, eqP_ss, neP_ii, neP_ss, isP_b, isNotP_b, inP_1, notInP_1, lenP_s, lenP_l, lenP_t, lenP_q, listP_s, listP_l, listP_t, tupleP_l, tupleP_t, ixP_l, ixP_t, ixP_q, ixP_s, atI_nat, atI_2, atI_3, atI_4, atI_0, atI_1, atI_last, setV_l, getV_l, ixN_nat, ixN_2, ixN_3, ixN_4, ixN_0, ixN_1, popP_n, appendP_1, extendP_l, slP_to, slP_from, slP_tto, slP_tfrom, slP_lto, slP_lfrom, MC.when, fl], List.getElem_mem hn, hd'⟩
theorem pick_l {d : PV} {xs : List PV} (hd : IsDr d) (h0 : xs ≠ []) (h1 : xs.length < 100000) : ∃ x d', F__law_pick [d, .lst xs] = some ((false, x), [d']) ∧ x ∈ xs ∧ IsDr d' := by
  have lp : 0 < xs.length := List.length_pos_iff.mpr h0
  obtain ⟨r, d', e, r0, r1, hd'⟩ := draw_ok hd (many := xs.length) (by omega) (by omega)
  obtain ⟨n, rfl⟩ := Int.eq_ofNat_of_zero_le r0
  have hn : n < xs.length := by omega
  exact ⟨xs[n], d', by simp -implicitDefEqProofs [F__law_pick, sem__law_pick, e, hn, bind_run, pure_run, lift_run, ite_run, bad_run, fnOf, runF, argE, seqM, ifM, asT, bin2, bin2v, un1, unL, asF, setM, setIxM, augIxM, augM, retM, giveM, dropM, look, take, put, frz1, ownsAny, owns, store, change, mutM, onL, isB, truM, truP, MC.notM, MC.andM, MC.orM, chain, tupM, lstM, consM, outs, callM, valM, slotM, argSlots, frzS, resolve, ioSlots, setIo, itemsM, itemsOf, PV.flat, isi_int_int, isi_int_bool, isi_int_str, isi_int_tuple, isi_int_list, isi_str_int, isi_str_bool, isi_str_str, isi_str_tuple, isi_str_list, isi_tuple_int, isi_tuple_bool, isi_tuple_str, isi_tuple_tuple, isi_tuple_list, isi_list_int, isi_list_bool, isi_list_str, isi_list_tuple, isi_list_list, isi_NoneType_int, isi_NoneType_bool, isi_NoneType_str, isi_NoneType_tuple, isi_NoneType_list, isi_bool_int, isi_bool_bool, isi_bool_str, isi_bool_tuple, isi_bool_list, strM, eqP_bb, neP_bb, andV, orV, notV, slM, slMv, asInt, str_len, addP_ii, addP_ib, addP_ss, addP_ll, addP_tt, iaddP_ii, subP_ii, mulP_ii, mulP_si, fdivP_ii, modP_ii, negP_i, absP_i, intP_i, intP_b, ltP_ii, leP_ii, gtP_ii, geP_ii, ltP_ss, leP_ss, gtP_ss, geP_ss, eqP_ii, eqP_ss, neP_ii, neP_ss, isP_b, isNotP_b, inP_1, notInP_1, lenP_s, lenP_l, lenP_t, lenP_q, listP_s, listP_l, listP_t, tupleP_l, tupleP_t, ixP_l, ixP_t, ixP_q, ixP_s, atI_nat, atI_2, atI_3, atI_4, atI_0, atI_1, atI_last, setV_l, getV_l, ixN_nat, ixN_2, ixN_3, ixN_4, ixN_0, ixN_1, popP_n, appendP_1, extendP_l, slP_to, slP_from, slP_tto, slP_tfrom, slP_lto, slP_lfrom, MC.when, fl], List.getElem_mem hn, hd'⟩
theorem pop_l {d : PV} {xs : List PV} (hd : IsDr d) (h0 : xs ≠ []) (h1 : xs.length < 100000) : ∃ (n : Nat) (hn : n < xs.length) (d' : PV), F__law_pop [d, .lst xs] = some ((false, xs[n]), [d', .lst (xs.eraseIdx n)]) ∧ IsDr d' := by
  have lp : 0 < xs.length := List.length_pos_iff.mpr h0
  obtain ⟨r, d', e, r0, r1, hd'⟩ := draw_ok hd (many := xs.length) (by omega) (by omega)
  obtain ⟨n, rfl⟩ := Int.eq_ofNat_of_zero_le r0
  have hn : n < xs.length := by omega
  exact ⟨n, hn, d', by simp -implicitDefEqProofs [F__law_pop, sem__law_pop, e, hn, h1, bind_run, pure_run, lift_run, ite_run, bad_run, fnOf, runF, argE, seqM, ifM, asT, bin2, bin2v, un1, unL, asF, setM, setIxM, augIxM, augM, retM, giveM, dropM, look, take, put, frz1, ownsAny, owns, store, change, mutM, onL, isB, truM, truP, MC.notM, MC.andM, MC.orM, chain, tupM, lstM, consM, outs, callM, valM, slotM, argSlots, frzS, resolve, ioSlots, setIo, itemsM, itemsOf, PV.flat, isi_int_int, isi_int_bool, isi_int_str, isi_int_tuple, isi_int_list, isi_str_int, isi_str_bool, isi_str_str, isi_str_tuple, isi_str_list, isi_tuple_int, isi_tuple_bool, isi_tuple_str, isi_tuple_tuple, isi_tuple_list, isi_list_int, isi_list_bool, isi_list_str, isi_list_tuple, isi_list_list, isi_NoneType_int, isi_NoneType_bool, isi_NoneType_str, isi_NoneType_tuple, isi_NoneType_list, isi_bool_int, isi_bool_bool, isi_bool_str, isi_bool_tuple, isi_bool_list, strM, eqP_bb, neP_bb, andV, orV, notV, slM, slMv, asInt, str_len, addP_ii, addP_ib, addP_ss, addP_ll, addP_tt, iaddP_ii, subP_ii, mulP_ii, mulP_si, fdivP_ii, modP_ii, negP_i, absP_i, intP_i, intP_b, ltP_ii, leP_ii, gtP_ii, geP_ii, ltP_ss, leP_ss, gtP_ss, geP_ss, eqP_ii, eqP_ss, neP_ii, neP_ss, isP_b, isNotP_b, inP_1, notInP_1, lenP_s, lenP_l, lenP_t, lenP_q, listP_s, listP_l, listP_t, tupleP_l, tupleP_t, ixP_l, ixP_t, ixP_q, ixP_s, atI_nat, atI_2, atI_3, atI_4, atI_0, atI_1, atI_last, setV_l, getV_l, ixN_nat, ixN_2, ixN_3, ixN_4, ixN_0, ixN_1, popP_n, appendP_1, extendP_l, slP_to, slP_from, slP_tto, slP_tfrom, slP_lto, slP_lfrom, MC.when, fl], hd'⟩
end MC.Law
set_option Elab.async false
set_option linter.all false
set_option maxRecDepth 100000
set_option maxHeartbeats 4000000
namespace MC.Law
open PySem
def AZ : List Nat := [97, 98, 99, 100, 101, 102, 103, 104, 105, 106, 107, 108, 109, 110, 111, 112, 113, 114, 115, 116, 117, 118, 119, 120, 121, 122]
theorem lit_az : Str.ofString "abcdefghijklmnopqrstuvwxyz" = ⟨⟨AZ⟩⟩ := by decide +kernel
theorem lit_e : Str.ofString "" = ⟨⟨[]⟩⟩ := by decide +kernel
structure Al (A : List Nat) (m : Nat) : Prop where
  len : A.length = m
  srt : A.Pairwise (· < ·)
  rg : ∀ c ∈ A, 97 ≤ c ∧ c ≤ 122
theorem joinL_map (L : List Nat) : TL.joinL [] (L.map fun c => [c]) = L := by
  induction L with
  | nil => rfl
  | cons a r ih =>
    cases r with
    | nil => rfl
    | cons b r =>
      show [a] ++ ([] ++ TL.joinL [] ((b :: r).map fun c => [c])) = _
      rw [ih]; rfl
theorem join_map (L : List Nat) : Txt.join ⟨⟨[]⟩⟩ (L.map fun c => (⟨⟨[c]⟩⟩ : Str)) = ⟨⟨L⟩⟩ := by
  have h := TL.tl_join ⟨⟨[]⟩⟩ (L.map fun c => (⟨⟨[c]⟩⟩ : Str))
  rw [List.map_map] at h
  have h2 : Txt.join ⟨⟨[]⟩⟩ (L.map fun c => (⟨⟨[c]⟩⟩ : Str)) = Str.join ⟨⟨[]⟩⟩ (L.map fun c => (⟨⟨[c]⟩⟩ : Str)) := TL.join_eq _ _
  rw [h2]
  have h3 : (Str.join ⟨⟨[]⟩⟩ (L.map fun c => (⟨⟨[c]⟩⟩ : Str))).cps.toList = L := h.trans (joinL_map L)
  cases e : Str.join ⟨⟨[]⟩⟩ (L.map fun c => (⟨⟨[c]⟩⟩ : Str)) with
  | mk c => rw [e] at h3; cases c; cases h3; rfl
theorem strsOf_sign (L : List Nat) : strsOf (L.map sign) = some (L.map fun c => (⟨⟨[c]⟩⟩ : Str)) := by
  induction L with
  | nil => rfl
  | cons a r ih => show (strsOf (r.map sign)).map _ = _; rw [ih]; rfl
theorem joinP_sign (L : List Nat) (h : L.length ≤ 1000) : joinP ⟨⟨[]⟩⟩ [.lst (L.map sign)] = some (false, .str ⟨⟨L⟩⟩) := by
  have hf : joinFits ⟨⟨[]⟩⟩ (L.map fun c => (⟨⟨[c]⟩⟩ : Str)) = true := by
    unfold joinFits
    refine decide_eq_true ?_
    have : ((L.map fun c => (⟨⟨[c]⟩⟩ : Str)).map (·.length)).sum = L.length := by
      rw [List.map_map]
      induction L with
      | nil => rfl
      | cons a r ih => simp only [List.map_cons, List.sum_cons, List.length_cons]; rw [ih (by simp at h; omega)]; show 1 + r.length = _; omega
    rw [this, str_len]
    simp; omega
  unfold joinP
  simp only [strsOf_sign, Option.bind_some, hf]
  show MC.when true _ = _
  rw [join_map]; rfl
theorem sortedP_sign (L : List Nat) (h0 : L ≠ []) (h : L.length < 64) : sortedP (.lst (L.map sign)) = some (true, .lst ((L.mergeSort fun a b => decide (a ≤ b)).map sign)) := by
  have hi : intsOf (L.map sign) = none := by
    cases L with
    | nil => exact absurd rfl h0
    | cons a r => rfl
  unfold sortedP
  simp only [hi, strsOf_sign]
  have hl : decide ((L.map fun c => (⟨⟨[c]⟩⟩ : Str)).length < 64) = true := by simpa using h
  rw [hl]
  show some (true, PV.lst _) = _
  congr 3
  unfold sortStrs
  have : (L.mergeSort fun a b => decide (a ≤ b)).map (fun c => (⟨⟨[c]⟩⟩ : Str)) = (L.map fun c => (⟨⟨[c]⟩⟩ : Str)).mergeSort strLe := List.map_mergeSort fun a _ b _ => by
    show decide (a ≤ b) = !decide ([b] < [a])
    rw [Bool.eq_iff_iff]
    simp [List.cons_lt_cons_iff]
  rw [← this, List.map_map]
  rfl
theorem sorted2P_sign (L : List Nat) (h0 : L ≠ []) (h : L.length < 64) : sorted2P (.lst (L.map sign)) = some (true, .lst ((L.mergeSort fun a b => decide (a ≤ b)).map sign)) := by
  unfold sorted2P
  rw [sortedP_sign L h0 h]
theorem map_erase {α β : Type} (f : α → β) : ∀ (l : List α) (n : Nat), (l.map f).eraseIdx n = (l.eraseIdx n).map f
  | [], n => by simp
  | a :: l, 0 => rfl
  | a :: l, n + 1 => by simp [map_erase f l n]
theorem cons_erase_perm {α : Type} : ∀ {l : List α} {n : Nat} (h : n < l.length), (l[n] :: l.eraseIdx n).Perm l
  | a :: l, 0, _ => .refl _
  | a :: l, n + 1, h => by
    have h' : n < l.length := by simpa using h
    show (l[n] :: a :: l.eraseIdx n).Perm (a :: l)
    exact (List.Perm.swap _ _ _).trans ((cons_erase_perm h').cons a)
theorem fo1_run {d d0 : PV} {many : Nat} (hd : IsDr d) (hm : many ≤ 6) : ∃ (d' : PV) (F L : List Nat) (x : Option (Bool × PV)), fo1__law_alphabet [some (true, d), some (false, .int many), some (true, .lst (AZ.map sign)), some (true, .lst []), none] =
    some (.nx, [some (true, d'), some (false, .int many), some (true, .lst (L.map sign)), some (true, .lst (F.map sign)), x]) ∧ IsDr d' ∧ F.length = many ∧ (F ++ L).Perm AZ := by
  have hr : inRange many = true := by unfold inRange; exact decide_eq_true ⟨by omega, by omega⟩
  obtain ⟨ρ', h1, d', F, L, x, rfl, h2⟩ := forM_inv (h := put 4 false) (f := bd1__law_alphabet) (fun n ρ => ∃ (d' : PV) (F L : List Nat) (x : Option (Bool × PV)), ρ = [some (true, d'), some (false, .int many), some (true, .lst (L.map sign)), some (true, .lst (F.map sign)), x] ∧ IsDr d' ∧ F.length = n ∧ (F ++ L).Perm AZ)
    (rangeL 0 many) 0 _ ⟨d, [], AZ, none, rfl, hd, rfl, .refl _⟩ (by
      rintro i x _ hx ⟨d', F, L, x4, rfl, hd', hF, hp⟩
      have hi : i < many := by
        have := (List.getElem?_eq_some_iff.mp hx).1
        simp [rangeL] at this; omega
      have hl : F.length + L.length = 26 := by have := hp.length_eq; rw [List.length_append] at this; exact this
      obtain ⟨n, hn, d2, e, hd2⟩ := pop_l hd' (xs := L.map sign) (by intro z; have := congrArg List.length z; simp at this; subst this; simp at hl; omega) (by simp; omega)
      have hn' : n < L.length := by simpa using hn
      have lf : F.length < 100000 := by omega
      refine ⟨_, .inl ?_, d2, F ++ [L[n]], L.eraseIdx n, some (false, x), rfl, hd2, by simp; omega, ?_⟩
      · rw [map_erase] at e
        have e3 : (L.map sign)[n] = sign L[n] := by simp
        rw [e3] at e
        simp -implicitDefEqProofs [bd1__law_alphabet, e, lf, bind_run, pure_run, lift_run, ite_run, bad_run, fnOf, runF, argE, seqM, ifM, asT, bin2, bin2v, un1, unL, asF, setM, setIxM, augIxM, augM, retM, giveM, dropM, look, take, put, frz1, ownsAny, owns, store, change, mutM, onL, isB, truM, truP, MC.notM, MC.andM, MC.orM, chain, tupM, lstM, consM, outs, callM, valM, slotM, argSlots, frzS, resolve, ioSlots, setIo, itemsM, itemsOf, PV.flat, isi_int_int, isi_int_bool, isi_int_str, isi_int_tuple, isi_int_list, isi_str_int, isi_str_bool, isi_str_str, isi_str_tuple, isi_str_list, isi_tuple_int, isi_tuple_bool, isi_tuple_str, isi_tuple_tuple, isi_tuple_list, isi_list_int, isi_list_bool, isi_list_str, isi_list_tuple, isi_list_list, isi_NoneType_int, isi_NoneType_bool, isi_NoneType_str, isi_NoneType_tuple, isi_NoneType_list, isi_bool_int, isi_bool_bool, isi_bool_str, isi_bool_tuple, isi_bool_list, strM, eqP_bb, neP_bb, andV, orV, notV, slM, slMv, asInt, str_len, addP_ii, addP_ib, addP_ss, addP_ll, addP_tt, iaddP_ii, subP_ii, mulP_ii, mulP_si, fdivP_ii, modP_ii, negP_i, absP_i, intP_i, intP_b, ltP_ii, leP_ii, gtP_ii, geP_ii, ltP_ss, leP_ss, gtP_ss, geP_ss, eqP_ii, eqP_ss, neP_ii, neP_ss, isP_b, isNotP_b, inP_1, notInP_1, lenP_s, lenP_l, lenP_t, lenP_q, listP_s, listP_l, listP_t, tupleP_l, tupleP_t, ixP_l, ixP_t, ixP_q, ixP_s, atI_nat, atI_2, atI_3, atI_4, atI_0, atI_1, atI_last, setV_l, getV_l, ixN_nat, ixN_2, ixN_3, ixN_4, ixN_0, ixN_1, popP_n, appendP_1, extendP_l, slP_to, slP_from, slP_tto, slP_tfrom, slP_lto, slP_lfrom, MC.when, fl]
      · refine List.Perm.trans ?_ hp
        rw [List.append_assoc]
        show (F ++ (L[n] :: L.eraseIdx n)).Perm (F ++ L)
        exact List.Perm.append_left F (cons_erase_perm hn'))
  refine ⟨d', F, L, x, ?_, h2.1, ?_, h2.2.2⟩
  · unfold fo1__law_alphabet range1M
    rw [bind_run, bind_run]
    simp -implicitDefEqProofs only [look, List.getElem?_cons_succ, List.getElem?_cons_zero, Option.bind_some, hr, if_true, pure_run]
    exact h1
  · have := h2.2.1; simp [rangeL] at this; omega
theorem az_nd : AZ.Nodup := by decide
theorem az_rg : ∀ c ∈ AZ, 97 ≤ c ∧ c ≤ 122 := by decide
theorem f26 : fits AZ.length = true := fits_of (by decide)
theorem f0 : fits 0 = true := fits_of (by decide)
theorem alphabet_run {d d' : PV} {many : Int} {F L : List Nat} {x : Option (Bool × PV)} (h0 : F ≠ []) (h1 : F.length < 60) (e : fo1__law_alphabet [some (true, d), some (false, .int many), some (true, .lst (AZ.map sign)), some (true, .lst []), none] =
    some (.nx, [some (true, d'), some (false, .int many), some (true, .lst (L.map sign)), some (true, .lst (F.map sign)), x])) :
    F__law_alphabet [d, .int many] = some ((false, .str ⟨⟨F.mergeSort fun a b => decide (a ≤ b)⟩⟩), [d']) := by
  have pm : (F.mergeSort fun a b => decide (a ≤ b)).Perm F := List.mergeSort_perm _ _
  have jn := joinP_sign (F.mergeSort fun a b => decide (a ≤ b)) (by rw [pm.length_eq]; omega)
  have st := sorted2P_sign F h0 (by omega)
  simp -implicitDefEqProofs [F__law_alphabet, sem__law_alphabet, lit_az, lit_e, f26, f0, e, st, jn, bind_run, pure_run, lift_run, ite_run, bad_run, fnOf, runF, argE, seqM, ifM, asT, bin2, bin2v, un1, unL, asF, setM, setIxM, augIxM, augM, retM, giveM, dropM, look, take, put, frz1, ownsAny, owns, store, change, mutM, onL, isB, truM, truP, MC.notM, MC.andM, MC.orM, chain, tupM, lstM, consM, outs, callM, valM, slotM, argSlots, frzS, resolve, ioSlots, setIo, itemsM, itemsOf, PV.flat, isi_int_int, isi_int_bool, isi_int_str, isi_int_tuple, isi_int_list, isi_str_int, isi_str_bool, isi_str_str, isi_str_tuple, isi_str_list, isi_tuple_int, isi_tuple_bool, isi_tuple_str, isi_tuple_tuple, isi_tuple_list, isi_list_int, isi_list_bool, isi_list_str, isi_list_tuple, isi_list_list, isi_NoneType_int, isi_NoneType_bool, isi_NoneType_str, isi_NoneType_tuple, isi_NoneType_list, isi_bool_int, isi_bool_bool, isi_bool_str, isi_bool_tuple, isi_bool_list, strM, eqP_bb, neP_bb, andV, orV, notV, slM, slMv, asInt, str_len, addP_ii, addP_ib, addP_ss, addP_ll, addP_tt, iaddP_ii, subP_ii, mulP_ii, mulP_si, fdivP_ii, modP_ii, negP_i, absP_i, intP_i, intP_b, ltP_ii, leP_ii, gtP_ii, geP_ii, ltP_ss, leP_ss, gtP_ss, geP_ss, eqP_ii, eqP_ss, neP_ii, neP_ss, isP_b, isNotP_b, inP_1, notInP_1, lenP_s, lenP_l, lenP_t, lenP_q, listP_s, listP_l, listP_t, tupleP_l, tupleP_t, ixP_l, ixP_t, ixP_q, ixP_s, atI_nat, atI_2, atI_3, atI_4, atI_0, atI_1, atI_last, setV_l, getV_l, ixN_nat, ixN_2, ixN_3, ixN_4, ixN_0, ixN_1, popP_n, appendP_1, extendP_l, slP_to, slP_from, slP_tto, slP_tfrom, slP_lto, slP_lfrom, MC.when, fl]
theorem sort_srt {F L : List Nat} (hp : (F ++ L).Perm AZ) : (F.mergeSort fun a b => decide (a ≤ b)).Pairwise (· < ·) := by
  have pm : (F.mergeSort fun a b => decide (a ≤ b)).Perm F := List.mergeSort_perm _ _
  have s1 := List.pairwise_mergeSort (le := fun a b : Nat => decide (a ≤ b)) (fun a b c h1 h2 => decide_eq_true (Nat.le_trans (of_decide_eq_true h1) (of_decide_eq_true h2))) (fun a b => by simp; omega) F
  have nd : (F.mergeSort fun a b => decide (a ≤ b)).Nodup := pm.nodup_iff.mpr (by
    have : (F ++ L).Nodup := hp.nodup_iff.mpr az_nd
    exact (List.nodup_append.mp this).1)
  refine (s1.and nd).imp fun h => ?_
  have h1 := of_decide_eq_true h.1
  have h2 := h.2
  omega
theorem alphabet_ok {d : PV} {many : Nat} (hd : IsDr d) (h0 : 0 < many) (hm : many ≤ 6) : ∃ (A : List Nat) (d' : PV), F__law_alphabet [d, .int many] = some ((false, .str ⟨⟨A⟩⟩), [d']) ∧ IsDr d' ∧ Al A many := by
  obtain ⟨d', F, L, x, e, hd', hF, hp⟩ := fo1_run (d0 := d) hd hm
  have pm : (F.mergeSort fun a b => decide (a ≤ b)).Perm F := List.mergeSort_perm _ _
  exact ⟨F.mergeSort fun a b => decide (a ≤ b), d', alphabet_run (by intro z; subst z; simp at hF; omega) (by omega) e, hd', ⟨by rw [pm.length_eq]; exact hF, sort_srt hp, fun c hc => az_rg c (hp.mem_iff.mp (List.mem_append_left _ (pm.mem_iff.mp hc)))⟩⟩
end MC.Law
set_option Elab.async false
set_option linter.all false
set_option maxRecDepth 100000
set_option maxHeartbeats 4000000
namespace MC.Law
open PySem
def ext (A : List Nat) (l : List (List Nat)) : List (List Nat) := l.flatMap fun w => A.map fun c => w ++ [c]
def wl (A : List Nat) : Nat → List (List Nat)
  | 0 => [[]]
  | n + 1 => ext A (wl A n)
def wu (A : List Nat) : Nat → List (List Nat)
  | 0 => wl A 0
  | n + 1 => wu A n ++ wl A (n + 1)
theorem ext_len (A : List Nat) (l : List (List Nat)) : (ext A l).length = l.length * A.length := by
  induction l with
  | nil => simp [ext]
  | cons a r ih =>
    unfold ext at ih ⊢
    rw [List.flatMap_cons, List.length_append, ih, List.length_map, List.length_cons, Nat.succ_mul, Nat.add_comm]
theorem wl_len {A : List Nat} : ∀ {n : Nat} {w : List Nat}, w ∈ wl A n → w.length = n
  | 0, w, h => by
    have : w = [] := by simpa [wl] using h
    subst this; rfl
  | n + 1, w, h => by
    unfold wl ext at h
    obtain ⟨v, hv, h2⟩ := List.mem_flatMap.mp h
    obtain ⟨c, _, rfl⟩ := List.mem_map.mp h2
    rw [List.length_append, wl_len hv]; rfl
def We (A : List Nat) (n : Int) (b : Bool) (l : List (List Nat)) (x3 : Option (Bool × PV)) : Env := [some (false, S A), some (false, .int n), some (b, .lst (l.map S)), x3, none, none]
theorem wol_lc {A : List Nat} {n : Int} {l : List (List Nat)} {x3 : Option (Bool × PV)} (hl : ∀ w ∈ l, w.length ≤ 100) (hs : l.length * A.length ≤ 1000) :
    lc1_words_of_length (We A n true l x3) = some ((true, .lst ((ext A l).map S)), We A n false l x3) := by
  have inner : ∀ w ∈ l, lcLoop [5] (put 5 false) (pure true) (asF (bin2v 4 (look 5) addP)) (A.map sign) [some (false, S A), some (false, .int n), some (false, .lst (l.map S)), x3, some (false, S w), none] =
      some (A.map fun c => S (w ++ [c]), [some (false, S A), some (false, .int n), some (false, .lst (l.map S)), x3, some (false, S w), none]) := fun w hw => by
    have hf : fits (w.length + 1) = true := fits_of (by have := hl w hw; omega)
    have := lcLoop_pure (vs := [5]) (h := put 5 false) (ft := pure true) (fe := asF (bin2v 4 (look 5) addP)) (ρ := [some (false, S A), some (false, .int n), some (false, .lst (l.map S)), x3, some (false, S w), none])
      (fun _ => true) (fun x => match x with
        | .str z => .str (⟨⟨w⟩⟩ ++ z)
        | x => x) (A.map sign) fun x hx => by
        obtain ⟨c, _, rfl⟩ := List.mem_map.mp hx
        refine ⟨_, rfl, fun _ => ⟨[some (false, S A), some (false, .int n), some (false, .lst (l.map S)), x3, some (false, S w), some (false, sign c)], ?_, rfl⟩, fun z => nomatch z⟩
        show asF _ [some (false, S A), some (false, .int n), some (false, .lst (l.map S)), x3, some (false, S w), some (false, .str ⟨⟨[c]⟩⟩)] = _
        simp -implicitDefEqProofs [hf, str_app, sign, bind_run, pure_run, lift_run, ite_run, bad_run, fnOf, runF, argE, seqM, ifM, asT, bin2, bin2v, un1, unL, asF, setM, setIxM, augIxM, augM, retM, giveM, dropM, look, take, put, frz1, ownsAny, owns, store, change, mutM, onL, isB, truM, truP, MC.notM, MC.andM, MC.orM, chain, tupM, lstM, consM, outs, callM, valM, slotM, argSlots, frzS, resolve, ioSlots, setIo, itemsM, itemsOf, PV.flat, isi_int_int, isi_int_bool, isi_int_str, isi_int_tuple, isi_int_list, isi_str_int, isi_str_bool, isi_str_str, isi_str_tuple, isi_str_list, isi_tuple_int, isi_tuple_bool, isi_tuple_str, isi_tuple_tuple, isi_tuple_list, isi_list_int, isi_list_bool, isi_list_str, isi_list_tuple, isi_list_list, isi_NoneType_int, isi_NoneType_bool, isi_NoneType_str, isi_NoneType_tuple, isi_NoneType_list, isi_bool_int, isi_bool_bool, isi_bool_str, isi_bool_tuple, isi_bool_list, strM, eqP_bb, neP_bb, andV, orV, notV, slM, slMv, asInt, str_len, addP_ii, addP_ib, addP_ss, addP_ll, addP_tt, iaddP_ii, subP_ii, mulP_ii, mulP_si, fdivP_ii, modP_ii, negP_i, absP_i, intP_i, intP_b, ltP_ii, leP_ii, gtP_ii, geP_ii, ltP_ss, leP_ss, gtP_ss, geP_ss, eqP_ii, eqP_ss, neP_ii, neP_ss, isP_b, isNotP_b, inP_1, notInP_1, lenP_s, lenP_l, lenP_t, lenP_q, listP_s, listP_l, listP_t, tupleP_l, tupleP_t, ixP_l, ixP_t, ixP_q, ixP_s, atI_nat, atI_2, atI_3, atI_4, atI_0, atI_1, atI_last, setV_l, getV_l, ixN_nat, ixN_2, ixN_3, ixN_4, ixN_0, ixN_1, popP_n, appendP_1, extendP_l, slP_to, slP_from, slP_tto, slP_tfrom, slP_lto, slP_lfrom, MC.when, fl]
    rw [this, List.filter_eq_self.mpr (fun _ _ => rfl), List.map_map]
    congr 2
    refine List.map_congr_left fun c _ => ?_
    show PV.str (⟨⟨w⟩⟩ ++ ⟨⟨[c]⟩⟩) = _
    rw [str_app]
  have outer := lc2Loop_pure (vs := [4, 5]) (vs1 := [5]) (h := put 4 false) (ft := pure true) (fi1 := itemsM (take 0)) (h1 := put 5 false) (ft1 := pure true) (fe := asF (bin2v 4 (look 5) addP)) (ρ := We A n false l x3)
    (fun x => match x with
      | .str ⟨⟨w⟩⟩ => A.map fun c => S (w ++ [c])
      | _ => []) (l.map S) fun x hx => by
      obtain ⟨w, hw, rfl⟩ := List.mem_map.mp hx
      exact ⟨_, _, _, A.map sign, rfl, rfl, inner w hw, rfl⟩
  have e2 : (l.map S).flatMap (fun x => match x with
      | .str ⟨⟨w⟩⟩ => A.map fun c => S (w ++ [c])
      | _ => []) = (ext A l).map S := by
    unfold ext
    rw [List.flatMap_map, List.map_flatMap]
    congr 1; funext w
    rw [List.map_map]; rfl
  rw [e2] at outer
  unfold lc1_words_of_length lc2M
  refine bind_of (a := l.map S) (ρ' := We A n false l x3) rfl ?_
  refine bind_of (a := (ext A l).map S) (ρ' := We A n false l x3) ?_ ?_
  · exact within_run rfl outer rfl
  · exact lst_run (by rw [List.length_map, ext_len]; omega)
theorem wol_step {A : List Nat} {n : Int} {i : Nat} {x : PV} {x3 : Option (Bool × PV)} (hi : i ≤ 60) (hB : (wl A i).length * A.length ≤ 1000) : (put 3 false x >>= fun _ => bd1_words_of_length) (We A n true (wl A i) x3) = some (.nx, We A n true (wl A (i + 1)) (some (false, x))) := by
  refine bind_of (ρ' := We A n true (wl A i) (some (false, x))) rfl ?_
  unfold bd1_words_of_length setM
  refine bind_of (wol_lc (fun w hw => by rw [wl_len hw]; omega) hB) ?_
  rfl
theorem wol_loop {A : List Nat} {n : Nat} (hn : n ≤ 60) (hB : ∀ i, i < n → (wl A i).length * A.length ≤ 1000) : ∃ x3, forM (put 3 false) bd1_words_of_length (rangeL 0 n) (We A n true (wl A 0) none) = some (.nx, We A n true (wl A n) x3) := by
  obtain ⟨ρ', h1, x3, rfl⟩ := forM_inv (h := put 3 false) (f := bd1_words_of_length) (fun i ρ => ∃ x3, ρ = We A n true (wl A i) x3) (rangeL 0 n) 0 (We A n true (wl A 0) none) ⟨none, rfl⟩ (by
      rintro i x _ hx ⟨x3, rfl⟩
      obtain ⟨hi, rfl⟩ := range_get hx
      rw [Nat.zero_add]
      exact ⟨_, .inl (wol_step (by omega) (hB i hi)), ⟨_, rfl⟩⟩)
  rw [range_len, Nat.zero_add] at h1
  exact ⟨x3, h1⟩
theorem wol_fo {A : List Nat} {n : Nat} (hn : n ≤ 60) (hB : ∀ i, i < n → (wl A i).length * A.length ≤ 1000) : ∃ x3, fo1_words_of_length (We A n true (wl A 0) none) = some (.nx, We A n true (wl A n) x3) := by
  obtain ⟨x3, h1⟩ := wol_loop hn hB
  exact ⟨x3, for_range (ρ' := We A n true (wl A 0) none) rfl (by omega) h1⟩
theorem f1 : fits 1 = true := fits_of (by decide)
theorem wol_ok {A : List Nat} {n : Nat} (hn : n ≤ 60) (hB : ∀ i, i < n → (wl A i).length * A.length ≤ 1000) : F_words_of_length [S A, .int n] = some ((true, .lst ((wl A n).map S)), []) := by
  obtain ⟨x3, e⟩ := wol_fo hn hB
  have h0 : lstM (consM (pure (.str "")) (pure [])) [some (false, S A), some (false, .int n), none, none, none, none] = some ((true, .lst [S []]), [some (false, S A), some (false, .int n), none, none, none, none]) := by
    simp -implicitDefEqProofs [lit_e, f1, bind_run, pure_run, lift_run, ite_run, bad_run, fnOf, runF, argE, seqM, ifM, asT, bin2, bin2v, un1, unL, asF, setM, setIxM, augIxM, augM, retM, giveM, dropM, look, take, put, frz1, ownsAny, owns, store, change, mutM, onL, isB, truM, truP, MC.notM, MC.andM, MC.orM, chain, tupM, lstM, consM, outs, callM, valM, slotM, argSlots, frzS, resolve, ioSlots, setIo, itemsM, itemsOf, PV.flat, isi_int_int, isi_int_bool, isi_int_str, isi_int_tuple, isi_int_list, isi_str_int, isi_str_bool, isi_str_str, isi_str_tuple, isi_str_list, isi_tuple_int, isi_tuple_bool, isi_tuple_str, isi_tuple_tuple, isi_tuple_list, isi_list_int, isi_list_bool, isi_list_str, isi_list_tuple, isi_list_list, isi_NoneType_int, isi_NoneType_bool, isi_NoneType_str, isi_NoneType_tuple, isi_NoneType_list, isi_bool_int, isi_bool_bool, isi_bool_str, isi_bool_tuple, isi_bool_list, strM, eqP_bb, neP_bb, andV, orV, notV, slM, slMv, asInt, str_len, addP_ii, addP_ib, addP_ss, addP_ll, addP_tt, iaddP_ii, subP_ii, mulP_ii, mulP_si, fdivP_ii, modP_ii, negP_i, absP_i, intP_i, intP_b, ltP_ii, leP_ii, gtP_ii, geP_ii, ltP_ss, leP_ss, gtP_ss, geP_ss, eqP_ii, eqP_ss, neP_ii, neP_ss, isP_b, isNotP_b, inP_1, notInP_1, lenP_s, lenP_l, lenP_t, lenP_q, listP_s, listP_l, listP_t, tupleP_l, tupleP_t, ixP_l, ixP_t, ixP_q, ixP_s, atI_nat, atI_2, atI_3, atI_4, atI_0, atI_1, atI_last, setV_l, getV_l, ixN_nat, ixN_2, ixN_3, ixN_4, ixN_0, ixN_1, popP_n, appendP_1, extendP_l, slP_to, slP_from, slP_tto, slP_tfrom, slP_lto, slP_lfrom, MC.when, fl]
  exact fn_run rfl rfl (seq_nx (set_run h0) (seq_nx e rfl)) rfl
end MC.Law
set_option Elab.async false
set_option linter.all false
set_option maxRecDepth 100000
set_option maxHeartbeats 4000000
namespace MC.Law
open PySem
/-- the words shorter than n -/
def wv (A : List Nat) : Nat → List (List Nat)
  | 0 => []
  | n + 1 => wv A n ++ wl A n
structure Bd (A : List Nat) (n : Nat) : Prop where
  m : n ≤ 50
  a : A.length ≤ 10
  w : ∀ i, i ≤ n → (wl A i).length ≤ 1000
  l : ∀ i, i < n → (wl A i).length * A.length ≤ 1000
  v : ∀ i, i ≤ n + 1 → (wv A i).length ≤ 1000
theorem Bd.le {A : List Nat} {n m : Nat} (h : Bd A n) (k : m ≤ n) : Bd A m := ⟨by have := h.m; omega, h.a, fun i hi => h.w i (by omega), fun i hi => h.l i (by omega), fun i hi => h.v i (by omega)⟩
def Lw (A : List Nat) (n : Int) (x2 x3 x4 : Option (Bool × PV)) (fr : List (List Nat)) (x6 x7 : Option (Bool × PV)) : Env := [some (false, S A), some (false, .int n), x2, x3, x4, some (true, .lst (fr.map S)), x6, x7]
theorem lw1 {A : List Nat} {n : Int} {x2 x3 x4 x7 : Option (Bool × PV)} {fr : List (List Nat)} {w : List Nat} (hA : A.length ≤ 10) (hf : fr.length ≤ 1000) (hw : w.length ≤ 100) :
    ∃ x7', fo1__law_words (Lw A n x2 x3 x4 fr (some (false, S w)) x7) = some (.nx, Lw A n x2 x3 x4 (fr ++ A.map fun c => w ++ [c]) (some (false, S w)) x7') := by
  obtain ⟨ρ', h1, x7', rfl⟩ := forM_inv (h := put 7 false) (f := bd1__law_words) (fun i ρ => ∃ x7', ρ = Lw A n x2 x3 x4 (fr ++ (A.take i).map fun c => w ++ [c]) (some (false, S w)) x7') (A.map sign) 0 (Lw A n x2 x3 x4 fr (some (false, S w)) x7) ⟨x7, by simp⟩ (by
    rintro i x _ hx ⟨x7', rfl⟩
    rw [List.getElem?_map] at hx
    obtain ⟨c, hc, rfl⟩ := Option.map_eq_some_iff.mp hx
    have hi : i < A.length := (List.getElem?_eq_some_iff.mp hc).1
    rw [Nat.zero_add]
    refine ⟨_, .inl ?_, ⟨some (false, sign c), rfl⟩⟩
    refine bind_of (ρ' := Lw A n x2 x3 x4 (fr ++ (A.take i).map fun c => w ++ [c]) (some (false, S w)) (some (false, .str ⟨⟨[c]⟩⟩))) rfl ?_
    have hF : fits (w.length + 1) = true := fits_of (by omega)
    have ha := appendP_1 (xs := (fr ++ (A.take i).map fun c => w ++ [c]).map S) (x := S (w ++ [c])) (by rw [List.length_map, List.length_append, List.length_map, List.length_take]; omega)
    have e2 : (fr ++ (A.take (i + 1)).map fun c => w ++ [c]).map S = (fr ++ (A.take i).map fun c => w ++ [c]).map S ++ [S (w ++ [c])] := by
      rw [List.take_add_one, hc]; simp
    unfold Lw
    rw [e2]
    generalize (fr ++ (A.take i).map fun c => w ++ [c]).map S = Z at ha ⊢
    simp -implicitDefEqProofs [bd1__law_words, hF, ha, sign, bind_run, pure_run, lift_run, ite_run, bad_run, fnOf, runF, argE, seqM, ifM, asT, bin2, bin2v, un1, unL, asF, setM, setIxM, augIxM, augM, retM, giveM, dropM, look, take, put, frz1, ownsAny, owns, store, change, mutM, onL, isB, truM, truP, MC.notM, MC.andM, MC.orM, chain, tupM, lstM, consM, outs, callM, valM, slotM, argSlots, frzS, resolve, ioSlots, setIo, itemsM, itemsOf, PV.flat, isi_int_int, isi_int_bool, isi_int_str, isi_int_tuple, isi_int_list, isi_str_int, isi_str_bool, isi_str_str, isi_str_tuple, isi_str_list, isi_tuple_int, isi_tuple_bool, isi_tuple_str, isi_tuple_tuple, isi_tuple_list, isi_list_int, isi_list_bool, isi_list_str, isi_list_tuple, isi_list_list, isi_NoneType_int, isi_NoneType_bool, isi_NoneType_str, isi_NoneType_tuple, isi_NoneType_list, isi_bool_int, isi_bool_bool, isi_bool_str, isi_bool_tuple, isi_bool_list, strM, eqP_bb, neP_bb, andV, orV, notV, slM, slMv, asInt, str_len, addP_ii, addP_ib, addP_ss, addP_ll, addP_tt, iaddP_ii, subP_ii, mulP_ii, mulP_si, fdivP_ii, modP_ii, negP_i, absP_i, intP_i, intP_b, ltP_ii, leP_ii, gtP_ii, geP_ii, ltP_ss, leP_ss, gtP_ss, geP_ss, eqP_ii, eqP_ss, neP_ii, neP_ss, isP_b, isNotP_b, inP_1, notInP_1, lenP_s, lenP_l, lenP_t, lenP_q, listP_s, listP_l, listP_t, tupleP_l, tupleP_t, ixP_l, ixP_t, ixP_q, ixP_s, atI_nat, atI_2, atI_3, atI_4, atI_0, atI_1, atI_last, setV_l, getV_l, ixN_nat, ixN_2, ixN_3, ixN_4, ixN_0, ixN_1, popP_n, appendP_1, extendP_l, slP_to, slP_from, slP_tto, slP_tfrom, slP_lto, slP_lfrom, MC.when, fl])
  refine ⟨x7', ?_⟩
  rw [Nat.zero_add, List.length_map, List.take_length] at h1
  unfold fo1__law_words
  exact bind_of (ρ' := Lw A n x2 x3 x4 fr (some (false, S w)) x7) rfl h1
theorem lw2 {A : List Nat} {n : Int} {b : Bool} {l : List (List Nat)} {x3 x4 x6 x7 : Option (Bool × PV)} (hA : A.length ≤ 10) (hl : l.length * A.length ≤ 900) (hw : ∀ w ∈ l, w.length ≤ 100) :
    ∃ x6' x7', fo2__law_words (Lw A n (some (b, .lst (l.map S))) x3 x4 [] x6 x7) = some (.nx, Lw A n (some (false, .lst (l.map S))) x3 x4 (ext A l) x6' x7') := by
  obtain ⟨ρ', h1, x6', x7', rfl⟩ := forM_inv (h := put 6 false) (f := bd2__law_words) (fun i ρ => ∃ x6' x7', ρ = Lw A n (some (false, .lst (l.map S))) x3 x4 (ext A (l.take i)) x6' x7') (l.map S) 0 (Lw A n (some (false, .lst (l.map S))) x3 x4 [] x6 x7) ⟨x6, x7, by simp [ext]⟩ (by
    rintro i x _ hx ⟨x6', x7', rfl⟩
    rw [List.getElem?_map] at hx
    obtain ⟨w, hc, rfl⟩ := Option.map_eq_some_iff.mp hx
    have hi : i < l.length := (List.getElem?_eq_some_iff.mp hc).1
    rw [Nat.zero_add]
    have hm : w ∈ l := List.mem_of_getElem? hc
    have le : (ext A (l.take i)).length ≤ 1000 := by
      rw [ext_len, List.length_take, Nat.min_eq_left (by omega)]
      have := Nat.mul_le_mul_right A.length (Nat.le_of_lt hi)
      omega
    obtain ⟨x7'', e⟩ := lw1 (A := A) (n := n) (x2 := some (false, .lst (l.map S))) (x3 := x3) (x4 := x4) (x7 := x7') (fr := ext A (l.take i)) (w := w) hA le (hw w hm)
    have e2 : ext A (l.take (i + 1)) = ext A (l.take i) ++ A.map fun c => w ++ [c] := by
      unfold ext
      rw [List.take_add_one, hc]; simp
    rw [← e2] at e
    exact ⟨_, .inl (bind_of rfl e), ⟨_, _, rfl⟩⟩)
  refine ⟨x6', x7', ?_⟩
  rw [Nat.zero_add, List.length_map, List.take_length] at h1
  unfold fo2__law_words
  refine bind_of (ρ' := Lw A n (some (false, .lst (l.map S))) x3 x4 [] x6 x7) ?_ h1
  cases b <;> rfl
theorem lw_ok {A : List Nat} {n : Nat} (B : Bd A n) (hB : ∀ i, i < n → (wl A i).length * A.length ≤ 900) : F__law_words [S A, .int n] = some ((true, .lst ((wv A (n + 1)).map S)), []) := by
  have hn := B.m
  have h0 : ∀ x2 : Option (Bool × PV), lstM (consM (pure (.str "")) (pure [])) [some (false, S A), some (false, .int n), x2, none, none, none, none, none] = some ((true, .lst [S []]), [some (false, S A), some (false, .int n), x2, none, none, none, none, none]) := fun x2 => by
    simp -implicitDefEqProofs [lit_e, f1, bind_run, pure_run, lift_run, ite_run, bad_run, fnOf, runF, argE, seqM, ifM, asT, bin2, bin2v, un1, unL, asF, setM, setIxM, augIxM, augM, retM, giveM, dropM, look, take, put, frz1, ownsAny, owns, store, change, mutM, onL, isB, truM, truP, MC.notM, MC.andM, MC.orM, chain, tupM, lstM, consM, outs, callM, valM, slotM, argSlots, frzS, resolve, ioSlots, setIo, itemsM, itemsOf, PV.flat, isi_int_int, isi_int_bool, isi_int_str, isi_int_tuple, isi_int_list, isi_str_int, isi_str_bool, isi_str_str, isi_str_tuple, isi_str_list, isi_tuple_int, isi_tuple_bool, isi_tuple_str, isi_tuple_tuple, isi_tuple_list, isi_list_int, isi_list_bool, isi_list_str, isi_list_tuple, isi_list_list, isi_NoneType_int, isi_NoneType_bool, isi_NoneType_str, isi_NoneType_tuple, isi_NoneType_list, isi_bool_int, isi_bool_bool, isi_bool_str, isi_bool_tuple, isi_bool_list, strM, eqP_bb, neP_bb, andV, orV, notV, slM, slMv, asInt, str_len, addP_ii, addP_ib, addP_ss, addP_ll, addP_tt, iaddP_ii, subP_ii, mulP_ii, mulP_si, fdivP_ii, modP_ii, negP_i, absP_i, intP_i, intP_b, ltP_ii, leP_ii, gtP_ii, geP_ii, ltP_ss, leP_ss, gtP_ss, geP_ss, eqP_ii, eqP_ss, neP_ii, neP_ss, isP_b, isNotP_b, inP_1, notInP_1, lenP_s, lenP_l, lenP_t, lenP_q, listP_s, listP_l, listP_t, tupleP_l, tupleP_t, ixP_l, ixP_t, ixP_q, ixP_s, atI_nat, atI_2, atI_3, atI_4, atI_0, atI_1, atI_last, setV_l, getV_l, ixN_nat, ixN_2, ixN_3, ixN_4, ixN_0, ixN_1, popP_n, appendP_1, extendP_l, slP_to, slP_from, slP_tto, slP_tfrom, slP_lto, slP_lfrom, MC.when, fl]
  obtain ⟨ρ', h1, x2, x4, x5, x6, x7, rfl⟩ := forM_inv (h := put 4 false) (f := bd3__law_words) (fun i ρ => ∃ b x4 x5 x6 x7, ρ = [some (false, S A), some (false, .int n), some (b, .lst ((wl A i).map S)), some (true, .lst ((wv A (i + 1)).map S)), x4, x5, x6, x7]) (rangeL 0 n) 0
    [some (false, S A), some (false, .int n), some (true, .lst [S []]), some (true, .lst [S []]), none, none, none, none] ⟨true, none, none, none, none, rfl⟩ (by
    rintro i x _ hx ⟨b, x4, x5, x6, x7, rfl⟩
    obtain ⟨hi, rfl⟩ := range_get hx
    rw [Nat.zero_add]
    obtain ⟨x6', x7', e⟩ := lw2 (A := A) (n := n) (b := b) (l := wl A i) (x3 := some (true, .lst ((wv A (i + 1)).map S))) (x4 := some (false, .int i)) (x6 := x6) (x7 := x7) B.a (hB i hi) (fun w hw => by rw [wl_len hw]; omega)
    refine ⟨_, .inl ?_, ⟨false, some (false, .int i), some (false, .lst ((wl A (i + 1)).map S)), x6', x7', rfl⟩⟩
    refine bind_of (ρ' := [some (false, S A), some (false, .int n), some (b, .lst ((wl A i).map S)), some (true, .lst ((wv A (i + 1)).map S)), some (false, .int i), x5, x6, x7]) rfl ?_
    have h2 : lstM (pure []) [some (false, S A), some (false, .int n), some (b, .lst ((wl A i).map S)), some (true, .lst ((wv A (i + 1)).map S)), some (false, .int i), x5, x6, x7] = some ((true, .lst []), [some (false, S A), some (false, .int n), some (b, .lst ((wl A i).map S)), some (true, .lst ((wv A (i + 1)).map S)), some (false, .int i), x5, x6, x7]) := by
      simp -implicitDefEqProofs [f0, bind_run, pure_run, lift_run, ite_run, bad_run, fnOf, runF, argE, seqM, ifM, asT, bin2, bin2v, un1, unL, asF, setM, setIxM, augIxM, augM, retM, giveM, dropM, look, take, put, frz1, ownsAny, owns, store, change, mutM, onL, isB, truM, truP, MC.notM, MC.andM, MC.orM, chain, tupM, lstM, consM, outs, callM, valM, slotM, argSlots, frzS, resolve, ioSlots, setIo, itemsM, itemsOf, PV.flat, isi_int_int, isi_int_bool, isi_int_str, isi_int_tuple, isi_int_list, isi_str_int, isi_str_bool, isi_str_str, isi_str_tuple, isi_str_list, isi_tuple_int, isi_tuple_bool, isi_tuple_str, isi_tuple_tuple, isi_tuple_list, isi_list_int, isi_list_bool, isi_list_str, isi_list_tuple, isi_list_list, isi_NoneType_int, isi_NoneType_bool, isi_NoneType_str, isi_NoneType_tuple, isi_NoneType_list, isi_bool_int, isi_bool_bool, isi_bool_str, isi_bool_tuple, isi_bool_list, strM, eqP_bb, neP_bb, andV, orV, notV, slM, slMv, asInt, str_len, addP_ii, addP_ib, addP_ss, addP_ll, addP_tt, iaddP_ii, subP_ii, mulP_ii, mulP_si, fdivP_ii, modP_ii, negP_i, absP_i, intP_i, intP_b, ltP_ii, leP_ii, gtP_ii, geP_ii, ltP_ss, leP_ss, gtP_ss, geP_ss, eqP_ii, eqP_ss, neP_ii, neP_ss, isP_b, isNotP_b, inP_1, notInP_1, lenP_s, lenP_l, lenP_t, lenP_q, listP_s, listP_l, listP_t, tupleP_l, tupleP_t, ixP_l, ixP_t, ixP_q, ixP_s, atI_nat, atI_2, atI_3, atI_4, atI_0, atI_1, atI_last, setV_l, getV_l, ixN_nat, ixN_2, ixN_3, ixN_4, ixN_0, ixN_1, popP_n, appendP_1, extendP_l, slP_to, slP_from, slP_tto, slP_tfrom, slP_lto, slP_lfrom, MC.when, fl]
    unfold bd3__law_words
    refine seq_nx (set_run h2) (seq_nx e (seq_nx (ρ' := [some (false, S A), some (false, .int n), some (false, .lst ((wl A (i + 1)).map S)), some (true, .lst ((wv A (i + 1)).map S)), some (false, .int i), some (false, .lst ((wl A (i + 1)).map S)), x6', x7']) rfl ?_))
    have hF : fits (((wv A (i + 1)).map S).length + ((wl A (i + 1)).map S).length) = true := fits_of (by
      have a1 := B.v (i + 1) (by omega)
      have a2 := B.w (i + 1) (by omega)
      rw [List.length_map, List.length_map]; omega)
    have ad := addP_ll hF
    show _ = some (Fl.nx, [some (false, S A), some (false, .int n), some (false, .lst ((wl A (i + 1)).map S)), some (true, .lst ((wv A (i + 1) ++ wl A (i + 1)).map S)), some (false, .int i), some (false, .lst ((wl A (i + 1)).map S)), x6', x7'])
    rw [List.map_append]
    generalize (wv A (i + 1)).map S = Z1 at ad ⊢
    generalize (wl A (i + 1)).map S = Z2 at ad ⊢
    refine set_run (x := (true, .lst (Z1 ++ Z2))) (ρ' := [some (false, S A), some (false, .int n), some (false, .lst Z2), some (true, .lst Z1), some (false, .int i), some (false, .lst Z2), x6', x7']) ?_
    simp -implicitDefEqProofs [ad, bind_run, pure_run, lift_run, ite_run, bad_run, fnOf, runF, argE, seqM, ifM, asT, bin2, bin2v, un1, unL, asF, setM, setIxM, augIxM, augM, retM, giveM, dropM, look, take, put, frz1, ownsAny, owns, store, change, mutM, onL, isB, truM, truP, MC.notM, MC.andM, MC.orM, chain, tupM, lstM, consM, outs, callM, valM, slotM, argSlots, frzS, resolve, ioSlots, setIo, itemsM, itemsOf, PV.flat, isi_int_int, isi_int_bool, isi_int_str, isi_int_tuple, isi_int_list, isi_str_int, isi_str_bool, isi_str_str, isi_str_tuple, isi_str_list, isi_tuple_int, isi_tuple_bool, isi_tuple_str, isi_tuple_tuple, isi_tuple_list, isi_list_int, isi_list_bool, isi_list_str, isi_list_tuple, isi_list_list, isi_NoneType_int, isi_NoneType_bool, isi_NoneType_str, isi_NoneType_tuple, isi_NoneType_list, isi_bool_int, isi_bool_bool, isi_bool_str, isi_bool_tuple, isi_bool_list, strM, eqP_bb, neP_bb, andV, orV, notV, slM, slMv, asInt, str_len, addP_ii, addP_ib, addP_ss, addP_ll, addP_tt, iaddP_ii, subP_ii, mulP_ii, mulP_si, fdivP_ii, modP_ii, negP_i, absP_i, intP_i, intP_b, ltP_ii, leP_ii, gtP_ii, geP_ii, ltP_ss, leP_ss, gtP_ss, geP_ss, eqP_ii, eqP_ss, neP_ii, neP_ss, isP_b, isNotP_b, inP_1, notInP_1, lenP_s, lenP_l, lenP_t, lenP_q, listP_s, listP_l, listP_t, tupleP_l, tupleP_t, ixP_l, ixP_t, ixP_q, ixP_s, atI_nat, atI_2, atI_3, atI_4, atI_0, atI_1, atI_last, setV_l, getV_l, ixN_nat, ixN_2, ixN_3, ixN_4, ixN_0, ixN_1, popP_n, appendP_1, extendP_l, slP_to, slP_from, slP_tto, slP_tfrom, slP_lto, slP_lfrom, MC.when, fl])
  rw [range_len, Nat.zero_add] at h1
  exact fn_run rfl rfl (seq_nx (set_run (h0 _)) (seq_nx (set_run (h0 _)) (seq_nx (for_range rfl (by omega) h1) rfl))) rfl
end MC.Law
set_option Elab.async false
set_option linter.all false
set_option maxRecDepth 100000
set_option maxHeartbeats 4000000
/-! tuples of words: all of a total length, in order -/
namespace MC.Law
abbrev Wd := List Nat
def total (ws : List Wd) : Nat := (ws.map List.length).sum
def tw (A : List Nat) : Nat → Nat → List (List Wd)
  | 0, t => if t = 0 then [[]] else []
  | m + 1, t => (List.range (t + 1)).flatMap fun f => (wl A f).flatMap fun w => (tw A m (t - f)).map (w :: ·)
theorem wl_in {A : List Nat} : ∀ {n : Nat} {w : Wd}, w ∈ wl A n → ∀ c ∈ w, c ∈ A
  | 0, w, h, c, hc => by rw [List.mem_singleton.mp h] at hc; cases hc
  | n + 1, w, h, c, hc => by
    obtain ⟨v, hv, h2⟩ := List.mem_flatMap.mp h
    obtain ⟨d, hd, rfl⟩ := List.mem_map.mp h2
    rcases List.mem_append.mp hc with h3 | h3
    · exact wl_in hv c h3
    · rw [List.mem_singleton.mp h3]; exact hd
theorem in_wl {A : List Nat} : ∀ (n : Nat) (w : Wd), w.length = n → (∀ c ∈ w, c ∈ A) → w ∈ wl A n
  | 0, w, h, _ => by rw [List.eq_nil_of_length_eq_zero h]; exact List.mem_singleton.mpr rfl
  | n + 1, w, h, hc => by
    have hne : w ≠ [] := fun z => by rw [z] at h; cases h
    refine List.mem_flatMap.mpr ⟨w.dropLast, in_wl n _ (by rw [List.length_dropLast]; omega) fun c q => hc c ((List.dropLast_sublist w).subset q), List.mem_map.mpr ⟨w.getLast hne, hc _ (List.getLast_mem hne), List.dropLast_concat_getLast hne⟩⟩
theorem tw_mem {A : List Nat} : ∀ {m t : Nat} {ws : List Wd}, ws ∈ tw A m t ↔ ws.length = m ∧ total ws = t ∧ ∀ w ∈ ws, ∀ c ∈ w, c ∈ A
  | 0, t, ws => by
    unfold tw
    constructor
    · intro h
      split at h
      · rename_i ht
        rw [List.mem_singleton.mp h]
        exact ⟨rfl, by rw [ht]; rfl, fun w hw => absurd hw List.not_mem_nil⟩
      · cases h
    · rintro ⟨h1, h2, _⟩
      have := List.eq_nil_of_length_eq_zero h1
      subst this
      rw [if_pos (show t = 0 from h2.symm)]; exact List.mem_singleton.mpr rfl
  | m + 1, t, ws => by
    unfold tw
    rw [List.mem_flatMap]
    constructor
    · rintro ⟨f, hf, h⟩
      have hf := List.mem_range.mp hf
      obtain ⟨w, hw, h⟩ := List.mem_flatMap.mp h
      obtain ⟨r, hr, rfl⟩ := List.mem_map.mp h
      obtain ⟨h1, h2, h3⟩ := tw_mem.mp hr
      refine ⟨by rw [List.length_cons, h1], ?_, fun v hv => ?_⟩
      · show ((w :: r).map List.length).sum = t
        rw [List.map_cons, List.sum_cons, wl_len hw]
        have : (r.map List.length).sum = t - f := h2
        omega
      · rcases List.mem_cons.mp hv with rfl | hv
        · exact wl_in hw
        · exact h3 v hv
    · rintro ⟨h1, h2, h3⟩
      cases ws with
      | nil => cases h1
      | cons w r =>
        have ht : w.length + total r = t := by rw [← h2]; show _ = ((w :: r).map List.length).sum; rw [List.map_cons, List.sum_cons]; rfl
        exact ⟨w.length, List.mem_range.mpr (by omega), List.mem_flatMap.mpr ⟨w, in_wl _ w rfl (h3 w List.mem_cons_self), List.mem_map.mpr ⟨r, tw_mem.mpr ⟨by simpa using h1, by omega, fun v hv => h3 v (List.mem_cons_of_mem _ hv)⟩, rfl⟩⟩⟩
/-! order -/
def wlt (a b : Wd) : Prop := a.length < b.length ∨ (a.length = b.length ∧ a < b)
def tlt : List Wd → List Wd → Prop
  | [], [] => False
  | [], _ :: _ => True
  | _ :: _, [] => False
  | a :: as, b :: bs => wlt a b ∨ (a = b ∧ tlt as bs)
theorem lt_irr : ∀ a : Wd, ¬ a < a
  | [], h => by simp at h
  | x :: a, h => by rw [List.cons_lt_cons_iff] at h; rcases h with h | h; exact absurd h (Nat.lt_irrefl _); exact lt_irr a h.2
theorem wlt_irr (a : Wd) : ¬ wlt a a := fun h => by rcases h with h | h; exact absurd h (Nat.lt_irrefl _); exact lt_irr a h.2
theorem tlt_irr : ∀ a : List Wd, ¬ tlt a a
  | [], h => h
  | x :: a, h => by rcases h with h | h; exact wlt_irr x h; exact tlt_irr a h.2
theorem lt_app : ∀ {a b : Wd}, a.length = b.length → a < b → ∀ c d : Wd, a ++ c < b ++ d
  | [], [], _, h, _, _ => by simp at h
  | [], _ :: _, h, _, _, _ => by cases h
  | _ :: _, [], h, _, _, _ => by cases h
  | x :: a, y :: b, hl, h, c, d => by
    rw [List.cons_append, List.cons_append, List.cons_lt_cons_iff]
    rw [List.cons_lt_cons_iff] at h
    rcases h with h | ⟨h1, h2⟩
    · exact .inl h
    · exact .inr ⟨h1, lt_app (by simpa using hl) h2 c d⟩
theorem lt_app2 : ∀ (a : Wd) {c d : Nat}, c < d → a ++ [c] < a ++ [d]
  | [], c, d, h => by show [c] < [d]; rw [List.cons_lt_cons_iff]; exact .inl h
  | x :: a, c, d, h => by rw [List.cons_append, List.cons_append, List.cons_lt_cons_iff]; exact .inr ⟨rfl, lt_app2 a h⟩
theorem wl_srt {A : List Nat} (hA : A.Pairwise (· < ·)) : ∀ n, (wl A n).Pairwise (· < ·)
  | 0 => by unfold wl; exact List.pairwise_singleton _ _
  | n + 1 => by
    show ((wl A n).flatMap fun w => A.map fun c => w ++ [c]).Pairwise _
    rw [List.pairwise_flatMap]
    refine ⟨fun w hw => ?_, ?_⟩
    · rw [List.pairwise_map]
      exact hA.imp fun h => lt_app2 w h
    · refine (List.Pairwise.and_mem.mp (wl_srt hA n)).imp ?_
      rintro a b ⟨ha, hb, h⟩ x hx y hy
      obtain ⟨c, _, rfl⟩ := List.mem_map.mp hx
      obtain ⟨d, _, rfl⟩ := List.mem_map.mp hy
      exact lt_app (by rw [wl_len ha, wl_len hb]) h _ _
theorem tw_srt {A : List Nat} (hA : A.Pairwise (· < ·)) : ∀ m t, (tw A m t).Pairwise tlt
  | 0, t => by unfold tw; split; exact List.pairwise_singleton _ _; exact List.Pairwise.nil
  | m + 1, t => by
    unfold tw
    rw [List.pairwise_flatMap]
    refine ⟨fun f hf => ?_, ?_⟩
    · rw [List.pairwise_flatMap]
      refine ⟨fun w hw => ?_, ?_⟩
      · rw [List.pairwise_map]
        exact (tw_srt hA m (t - f)).imp fun h => .inr ⟨rfl, h⟩
      · refine (List.Pairwise.and_mem.mp (wl_srt hA f)).imp ?_
        rintro a b ⟨ha, hb, h⟩ x hx y hy
        obtain ⟨c, _, rfl⟩ := List.mem_map.mp hx
        obtain ⟨d, _, rfl⟩ := List.mem_map.mp hy
        exact .inl (.inr ⟨by rw [wl_len ha, wl_len hb], h⟩)
    · refine List.pairwise_lt_range.imp ?_
      intro f g hfg x hx y hy
      obtain ⟨a, ha, hx⟩ := List.mem_flatMap.mp hx
      obtain ⟨b, hb, hy⟩ := List.mem_flatMap.mp hy
      obtain ⟨c, _, rfl⟩ := List.mem_map.mp hx
      obtain ⟨d, _, rfl⟩ := List.mem_map.mp hy
      exact .inl (.inl (by rw [wl_len ha, wl_len hb]; exact hfg))
theorem tw_nd {A : List Nat} (hA : A.Pairwise (· < ·)) (m t : Nat) : (tw A m t).Nodup := (tw_srt hA m t).imp fun {a b} h e => by subst e; exact tlt_irr _ h
/-! cuts -/
def lowR (row : List Nat) : Nat := row.getLast?.getD 0
def cu (s : Nat) : Nat → List (List Nat)
  | 0 => [[]]
  | k + 1 => (cu s k).flatMap fun row => (List.range (s + 1 - lowR row)).map fun i => row ++ [lowR row + i]
def cutw (w : Wd) : Nat → List Nat → List Wd
  | low, [] => [w.drop low]
  | low, p :: row => (w.drop low).take (p - low) :: cutw w p row
def psum : Nat → List Wd → List Nat
  | _, [] => []
  | _, [_] => []
  | lo, x :: y :: r => (lo + x.length) :: psum (lo + x.length) (y :: r)
/-- ascending from lo, at most s -/
def AscR (s : Nat) : Nat → List Nat → Prop
  | lo, [] => lo ≤ s
  | lo, p :: row => lo ≤ p ∧ AscR s p row
theorem AscR.snoc {s : Nat} : ∀ {lo : Nat} {row : List Nat} {p : Nat}, AscR s lo row → (row.getLast?.getD lo) ≤ p → p ≤ s → AscR s lo (row ++ [p])
  | lo, [], p, h, h1, h2 => ⟨h1, h2⟩
  | lo, q :: row, p, h, h1, h2 => ⟨h.1, AscR.snoc h.2 (by cases row with | nil => exact h1 | cons a b => rw [List.getLast?_cons_cons] at h1; rw [List.getLast?_eq_some_getLast (List.cons_ne_nil a b)] at h1 ⊢; exact h1) h2⟩
theorem AscR.init {s : Nat} : ∀ {lo : Nat} {row : List Nat} {p : Nat}, AscR s lo (row ++ [p]) → AscR s lo row ∧ (row.getLast?.getD lo) ≤ p ∧ p ≤ s
  | lo, [], p, h => ⟨Nat.le_trans h.1 h.2, h.1, h.2⟩
  | lo, q :: row, p, h => by
    obtain ⟨h1, h2, h3⟩ := AscR.init (lo := q) (row := row) h.2
    refine ⟨⟨h.1, h1⟩, ?_, h3⟩
    cases row with
    | nil => exact h2
    | cons a b => rw [List.getLast?_cons_cons, List.getLast?_eq_some_getLast (List.cons_ne_nil a b)]; rw [List.getLast?_eq_some_getLast (List.cons_ne_nil a b)] at h2; exact h2
theorem cu_mem {s : Nat} : ∀ {k : Nat} {row : List Nat}, row ∈ cu s k ↔ row.length = k ∧ AscR s 0 row
  | 0, row => by
    unfold cu
    rw [List.mem_singleton]
    exact ⟨fun h => by subst h; exact ⟨rfl, Nat.zero_le _⟩, fun h => List.eq_nil_of_length_eq_zero h.1⟩
  | k + 1, row => by
    unfold cu
    rw [List.mem_flatMap]
    constructor
    · rintro ⟨r, hr, h⟩
      obtain ⟨i, hi, rfl⟩ := List.mem_map.mp h
      have hi := List.mem_range.mp hi
      obtain ⟨h1, h2⟩ := cu_mem.mp hr
      exact ⟨by rw [List.length_append, h1]; rfl, h2.snoc (Nat.le_add_right _ _) (by omega)⟩
    · rintro ⟨h1, h2⟩
      have hne : row ≠ [] := fun z => by rw [z] at h1; cases h1
      have e := List.dropLast_concat_getLast hne
      rw [← e] at h2
      obtain ⟨a1, a2, a3⟩ := h2.init
      have a2 : lowR row.dropLast ≤ row.getLast hne := a2
      refine ⟨row.dropLast, cu_mem.mpr ⟨by rw [List.length_dropLast]; omega, a1⟩, List.mem_map.mpr ⟨row.getLast hne - lowR row.dropLast, List.mem_range.mpr (by omega), ?_⟩⟩
      rw [show lowR row.dropLast + (row.getLast hne - lowR row.dropLast) = row.getLast hne by omega, e]
theorem cu_nd (s : Nat) : ∀ k, (cu s k).Nodup
  | 0 => by unfold cu; exact List.pairwise_singleton _ _
  | k + 1 => by
    show List.Pairwise _ _
    unfold cu
    rw [List.pairwise_flatMap]
    refine ⟨fun r _ => ?_, ?_⟩
    · rw [List.pairwise_map]
      exact List.pairwise_lt_range.imp fun {i j} h e => by
        have := List.append_cancel_left e
        simp at this; omega
    · refine (cu_nd s k).imp ?_
      intro a b hab x hx y hy e
      obtain ⟨i, _, rfl⟩ := List.mem_map.mp hx
      obtain ⟨j, _, rfl⟩ := List.mem_map.mp hy
      exact hab (List.append_inj_left' e rfl)
theorem cutw_ok {w : Wd} : ∀ {lo : Nat} {row : List Nat}, AscR w.length lo row → (cutw w lo row).flatten = w.drop lo ∧ (cutw w lo row).length = row.length + 1 ∧ psum lo (cutw w lo row) = row
  | lo, [], h => by
    unfold cutw
    exact ⟨by simp, rfl, rfl⟩
  | lo, p :: row, h => by
    obtain ⟨h1, h2, h3⟩ := cutw_ok (w := w) h.2
    have hp : p ≤ w.length := by
      have : ∀ {lo : Nat} {row : List Nat}, AscR w.length lo row → lo ≤ w.length := fun {lo row} => by
        induction row generalizing lo with
        | nil => exact fun h => h
        | cons q r ih => exact fun h => Nat.le_trans h.1 (ih h.2)
      exact this h.2
    unfold cutw
    refine ⟨?_, by rw [List.length_cons, h2, List.length_cons], ?_⟩
    · rw [List.flatten_cons, h1]
      have : w.drop p = (w.drop lo).drop (p - lo) := by rw [List.drop_drop]; congr 1; have := h.1; omega
      rw [this, List.take_append_drop]
    · have ln : ((w.drop lo).take (p - lo)).length = p - lo := by rw [List.length_take, List.length_drop]; have := h.1; omega
      cases e : cutw w p row with
      | nil => rw [e] at h2; cases h2
      | cons y r =>
        show (lo + ((w.drop lo).take (p - lo)).length) :: psum (lo + ((w.drop lo).take (p - lo)).length) (y :: r) = p :: row
        rw [ln, show lo + (p - lo) = p by have := h.1; omega, ← e, h3]
theorem total_flat (ws : List Wd) : ws.flatten.length = total ws := by unfold total; rw [List.length_flatten]
theorem psum_ok : ∀ (pre : Wd) (ws : List Wd), ws ≠ [] → AscR (pre ++ ws.flatten).length pre.length (psum pre.length ws) ∧ cutw (pre ++ ws.flatten) pre.length (psum pre.length ws) = ws ∧ (psum pre.length ws).length + 1 = ws.length
  | pre, [], h => absurd rfl h
  | pre, [x], _ => by
    refine ⟨?_, ?_, rfl⟩
    · show pre.length ≤ _; simp
    · show [(pre ++ [x].flatten).drop pre.length] = [x]; simp
  | pre, x :: y :: r, _ => by
    obtain ⟨h1, h2, h3⟩ := psum_ok (pre ++ x) (y :: r) (List.cons_ne_nil _ _)
    have e1 : (pre ++ x).length = pre.length + x.length := List.length_append
    have e2 : pre ++ x ++ (y :: r).flatten = pre ++ (x :: y :: r).flatten := by rw [show (x :: y :: r).flatten = x ++ (y :: r).flatten from List.flatten_cons, List.append_assoc]
    rw [e1, e2] at h1 h2
    rw [e1] at h3
    refine ⟨⟨Nat.le_add_right _ _, h1⟩, ?_, by show (psum (pre.length + x.length) (y :: r)).length + 1 + 1 = _; rw [h3]; rfl⟩
    show ((pre ++ (x :: y :: r).flatten).drop pre.length).take (pre.length + x.length - pre.length) :: cutw (pre ++ (x :: y :: r).flatten) (pre.length + x.length) (psum (pre.length + x.length) (y :: r)) = _
    rw [h2, show pre.length + x.length - pre.length = x.length by omega, List.drop_left, List.flatten_cons, List.take_left]
def fdl (A : List Nat) (t k : Nat) : List (List Wd) := (cu t k).flatMap fun row => (wl A t).map fun w => cutw w 0 row
theorem fdl_mem {A : List Nat} {t k : Nat} {ws : List Wd} : ws ∈ fdl A t k ↔ ws.length = k + 1 ∧ total ws = t ∧ ∀ w ∈ ws, ∀ c ∈ w, c ∈ A := by
  unfold fdl
  rw [List.mem_flatMap]
  constructor
  · rintro ⟨row, hr, h⟩
    obtain ⟨w, hw, rfl⟩ := List.mem_map.mp h
    obtain ⟨h1, h2⟩ := cu_mem.mp hr
    have hl := wl_len hw
    obtain ⟨a1, a2, _⟩ := cutw_ok (w := w) (lo := 0) (by rw [hl]; exact h2)
    rw [List.drop_zero] at a1
    refine ⟨by rw [a2, h1], by rw [← total_flat, a1, hl], fun v hv c hc => ?_⟩
    refine wl_in hw c ?_
    rw [← a1]
    exact List.mem_flatten.mpr ⟨v, hv, hc⟩
  · rintro ⟨h1, h2, h3⟩
    have hne : ws ≠ [] := fun z => by rw [z] at h1; cases h1
    obtain ⟨a1, a2, a3⟩ := psum_ok [] ws hne
    rw [List.nil_append] at a1 a2
    rw [total_flat, h2] at a1
    refine ⟨psum 0 ws, cu_mem.mpr ⟨by have : (psum 0 ws).length + 1 = ws.length := a3; omega, a1⟩, List.mem_map.mpr ⟨ws.flatten, in_wl _ _ (by rw [total_flat, h2]) (fun c hc => ?_), a2⟩⟩
    obtain ⟨w, hw, hc⟩ := List.mem_flatten.mp hc
    exact h3 w hw c hc
theorem fdl_nd {A : List Nat} (hA : A.Pairwise (· < ·)) (t k : Nat) : (fdl A t k).Nodup := by
  show List.Pairwise _ _
  unfold fdl
  rw [List.pairwise_flatMap]
  have rec_ : ∀ {row w}, row ∈ cu t k → w ∈ wl A t → psum 0 (cutw w 0 row) = row ∧ (cutw w 0 row).flatten = w := fun {row w} hr hw => by
    have := cutw_ok (w := w) (lo := 0) (row := row) (by rw [wl_len hw]; exact (cu_mem.mp hr).2)
    exact ⟨this.2.2, by rw [this.1, List.drop_zero]⟩
  refine ⟨fun row hr => ?_, ?_⟩
  · rw [List.pairwise_map]
    refine (List.Pairwise.and_mem.mp (wl_srt hA t)).imp ?_
    rintro a b ⟨ha, hb, h⟩ e
    rw [← (rec_ hr ha).2, ← (rec_ hr hb).2, e] at h
    exact lt_irr _ h
  · refine (List.Pairwise.and_mem.mp (cu_nd t k)).imp ?_
    rintro a b ⟨ha, hb, h⟩ x hx y hy e
    obtain ⟨w, hw, rfl⟩ := List.mem_map.mp hx
    obtain ⟨v, hv, rfl⟩ := List.mem_map.mp hy
    exact h (by rw [← (rec_ ha hw).1, ← (rec_ hb hv).1, e])
theorem fdl_perm {A : List Nat} (hA : A.Pairwise (· < ·)) (t k : Nat) : (fdl A t k).Perm (tw A (k + 1) t) :=
  (List.perm_ext_iff_of_nodup (fdl_nd hA t k) (tw_nd hA (k + 1) t)).mpr fun ws => by rw [fdl_mem, tw_mem]
end MC.Law
set_option Elab.async false
set_option linter.all false
set_option maxRecDepth 100000
set_option maxHeartbeats 4000000
/-! the order of models, told by keys -/
namespace MC.Law
open PySem PySem.W
open PyProof.Rows (lex_irrefl lex_diff)
abbrev WP (w : Wd) : PV := .tup [.int w.length, S w]
abbrev TU (ws : List Wd) : PV := .tup (ws.map S)
def KO (ws : List Wd) : PV := .tup [.int (total ws), .lst (ws.map WP)]
def KM (ws : List Wd) : PV := .tup [.int (total ws), .tup (ws.map WP)]
abbrev wd (w : Wd) : PyData := .tuple [.int w.length, .str ⟨⟨w⟩⟩]
theorem toDs_map {α : Type} (g : α → PV) : ∀ l : List α, toDs (l.map g) = l.map fun x => toD (g x)
  | [] => rfl
  | x :: l => by rw [List.map_cons, List.map_cons, ← toDs_map g l]; rfl
theorem toD_KO (ws : List Wd) : toD (KO ws) = .tuple [.int (total ws), .list (ws.map wd)] := by
  show PyData.tuple [.int _, .list (toDs (ws.map WP))] = _
  rw [toDs_map]; rfl
theorem toD_KM (ws : List Wd) : toD (KM ws) = .tuple [.int (total ws), .tuple (ws.map wd)] := by
  show PyData.tuple [.int _, .tuple (toDs (ws.map WP))] = _
  rw [toDs_map]; rfl
theorem alike_wd (a b : Wd) : alike (wd a) (wd b) = true := by simp [alike, alikeAll]
theorem alike_wds : ∀ as bs : List Wd, alikeAll (as.map wd) (bs.map wd) = true
  | [], _ => by simp [alikeAll]
  | _ :: _, [] => by simp [alikeAll]
  | a :: as, b :: bs => by
    rw [List.map_cons, List.map_cons, alikeAll, alike_wd, alike_wds as bs]; rfl
theorem str_eq {a b : Wd} : (⟨⟨a⟩⟩ : Str) = ⟨⟨b⟩⟩ ↔ a = b := by
  constructor
  · intro h; cases h; rfl
  · intro h; rw [h]
theorem eqv_wd (a b : Wd) : PyData.eqv (wd a) (wd b) = true ↔ a = b := by
  simp only [PyData.eqv, PyData.eqvAll, Bool.and_true, Bool.and_eq_true, beq_iff_eq]
  constructor
  · rintro ⟨_, h⟩; exact str_eq.mp h
  · rintro rfl; exact ⟨rfl, rfl⟩
open Classical in
theorem lt_wd (a b : Wd) : dataLt (wd a) (wd b) = decide (wlt a b) := by
  rw [dataLt_pair (by simp [alike]) (by simp [alike]), dataLt_int, dataLt_str]
  simp only [PyData.eqv, beq_iff_eq]
  unfold wlt
  by_cases h1 : a.length = b.length
  · rw [if_pos (by omega)]
    by_cases h2 : a = b
    · subst h2
      rw [if_pos rfl]
      rw [Bool.eq_iff_iff]; simp
    · rw [if_neg (fun z => h2 (str_eq.mp z))]
      rw [Bool.eq_iff_iff]; simp [h1]
  · rw [if_neg (by omega)]
    rw [Bool.eq_iff_iff]; simp [h1]
open Classical in
theorem lt_wds : ∀ as bs : List Wd, PyProof.Rows.lexLt PyProof.Rows.itemOrd (keyToksAll (as.map wd)) (keyToksAll (bs.map wd)) = decide (tlt as bs)
  | [], [] => by rw [decide_eq_false (fun h : tlt [] [] => h)]; exact lex_irrefl _
  | [], b :: bs => by
    rw [decide_eq_true (show tlt [] (b :: bs) from trivial), List.map_nil, List.map_cons, toks_all_cons]
    unfold keyToksAll
    rw [lex_diff (by intro h; injection h with h; revert h; decide)]
    rfl
  | a :: as, [] => by
    rw [decide_eq_false (fun h : tlt (a :: as) [] => h), List.map_nil, List.map_cons, toks_all_cons]
    unfold keyToksAll
    rw [lex_diff (by intro h; injection h with h; revert h; decide)]
    rfl
  | a :: as, b :: bs => by
    rw [List.map_cons, List.map_cons, dataLt_cons (alike_wd a b), lt_wds as bs, lt_wd]
    by_cases h : a = b
    · subst h
      rw [if_pos ((eqv_wd a a).mpr rfl)]
      rw [Bool.eq_iff_iff, decide_eq_true_iff, decide_eq_true_iff]
      exact ⟨fun h => .inr ⟨rfl, h⟩, fun h => by rcases h with h | h; exact absurd h (wlt_irr a); exact h.2⟩
    · rw [if_neg (fun z => h ((eqv_wd a b).mp z))]
      rw [Bool.eq_iff_iff, decide_eq_true_iff, decide_eq_true_iff]
      exact ⟨fun h => .inl h, fun k => by rcases k with k | k; exact k; exact absurd k.1 h⟩
def klt (a b : List Wd) : Prop := total a < total b ∨ (total a = total b ∧ tlt a b)
theorem eqvAll_wd : ∀ as bs : List Wd, PyData.eqvAll (as.map wd) (bs.map wd) = true ↔ as = bs
  | [], [] => by simp [PyData.eqvAll]
  | [], b :: bs => by simp [PyData.eqvAll]
  | a :: as, [] => by simp [PyData.eqvAll]
  | a :: as, b :: bs => by
    rw [List.map_cons, List.map_cons, eqv_all_cons, Bool.and_eq_true, eqv_wd, eqvAll_wd as bs]
    exact ⟨fun h => by rw [h.1, h.2], fun h => by cases h; exact ⟨rfl, rfl⟩⟩
open Classical in
theorem lt_KO (a b : List Wd) : dataLt (toD (KO a)) (toD (KO b)) = decide (klt a b) := by
  rw [toD_KO, toD_KO, dataLt_pair (by simp [alike]) (by rw [alike]; exact alike_wds a b), dataLt_int, dataLt_list, lt_wds]
  simp only [PyData.eqv, beq_iff_eq, eqvAll_wd]
  unfold klt
  by_cases h1 : total a = total b
  · rw [if_pos (by omega)]
    by_cases h2 : a = b
    · subst h2; rw [if_pos rfl, Bool.eq_iff_iff]; simp [tlt_irr]
    · rw [if_neg h2, Bool.eq_iff_iff]; simp [h1]
  · rw [if_neg (by omega), Bool.eq_iff_iff]; simp [h1]
open Classical in
theorem lt_KM (a b : List Wd) : dataLt (toD (KM a)) (toD (KM b)) = decide (klt a b) := by
  rw [← lt_KO, toD_KO, toD_KO, toD_KM, toD_KM, dataLt_pair (by simp [alike]) (by rw [alike]; exact alike_wds a b), dataLt_pair (by simp [alike]) (by rw [alike]; exact alike_wds a b), dataLt_list, dataLt_tuple]
  simp only [PyData.eqv]
  rfl
/-! sorting -/
noncomputable def leK : List Wd → List Wd → Bool := dataLe false fun ws => toD (KO ws)
theorem leK_KM : (dataLe false fun ws => toD (KM ws)) = leK := by
  funext a b
  show (!dataLt (toD (KM b)) (toD (KM a))) = !dataLt (toD (KO b)) (toD (KO a))
  rw [lt_KM, lt_KO]
theorem leK_iff {a b : List Wd} : leK a b = true ↔ ¬ klt b a := by
  show (!dataLt (toD (KO b)) (toD (KO a))) = true ↔ _
  rw [lt_KO]; simp
theorem leK_tot : TotalLe leK := by
  show TotalLe (sortLe (PyProof.Rows.listOrd PyProof.Rows.itemOrd) false fun ws => keyToks (toD (KO ws)))
  exact sortLe_total _ _ _
theorem lt_tri : ∀ a b : Wd, a < b ∨ a = b ∨ b < a
  | [], [] => .inr (.inl rfl)
  | [], y :: b => .inl (by simp)
  | x :: a, [] => .inr (.inr (by simp))
  | x :: a, y :: b => by
    rw [List.cons_lt_cons_iff, List.cons_lt_cons_iff]
    rcases Nat.lt_trichotomy x y with h | rfl | h
    · exact .inl (.inl h)
    · rcases lt_tri a b with h | rfl | h
      · exact .inl (.inr ⟨rfl, h⟩)
      · exact .inr (.inl rfl)
      · exact .inr (.inr (.inr ⟨rfl, h⟩))
    · exact .inr (.inr (.inl h))
theorem wlt_tri (a b : Wd) : wlt a b ∨ a = b ∨ wlt b a := by
  rcases Nat.lt_trichotomy a.length b.length with h | h | h
  · exact .inl (.inl h)
  · rcases lt_tri a b with k | k | k
    · exact .inl (.inr ⟨h, k⟩)
    · exact .inr (.inl k)
    · exact .inr (.inr (.inr ⟨h.symm, k⟩))
  · exact .inr (.inr (.inl h))
theorem tlt_tri : ∀ a b : List Wd, tlt a b ∨ a = b ∨ tlt b a
  | [], [] => .inr (.inl rfl)
  | [], y :: b => .inl trivial
  | x :: a, [] => .inr (.inr trivial)
  | x :: a, y :: b => by
    rcases wlt_tri x y with h | rfl | h
    · exact .inl (.inl h)
    · rcases tlt_tri a b with h | rfl | h
      · exact .inl (.inr ⟨rfl, h⟩)
      · exact .inr (.inl rfl)
      · exact .inr (.inr (.inr ⟨rfl, h⟩))
    · exact .inr (.inr (.inl h))
theorem leK_anti {a b : List Wd} (h1 : leK a b = true) (h2 : leK b a = true) : a = b := by
  rw [leK_iff] at h1 h2
  rcases Nat.lt_trichotomy (total a) (total b) with h | h | h
  · exact absurd (.inl h) h2
  · rcases tlt_tri a b with k | k | k
    · exact absurd (.inr ⟨h, k⟩) h2
    · exact k
    · exact absurd (.inr ⟨h.symm, k⟩) h1
  · exact absurd (.inl h) h1
noncomputable def srt (l : List (List Wd)) : List (List Wd) := l.mergeSort leK
theorem srt_perm (l : List (List Wd)) : (srt l).Perm l := List.mergeSort_perm _ _
theorem srt_pw (l : List (List Wd)) : (srt l).Pairwise fun a b => leK a b = true := List.pairwise_mergeSort leK_tot.trans (fun a b => by have := leK_tot.total a b; simpa using this) l
theorem srt_uniq {l m : List (List Wd)} (hp : l.Perm m) (hs : m.Pairwise fun a b => leK a b = true) : srt l = m :=
  List.Perm.eq_of_pairwise (le := fun a b => leK a b = true) (fun a b _ _ h1 h2 => leK_anti h1 h2) (srt_pw l) hs ((srt_perm l).trans hp)
theorem srt_same {l m : List (List Wd)} (hp : l.Perm m) : srt l = srt m := srt_uniq (hp.trans (srt_perm m).symm) (srt_pw m)
theorem tlt_asym : ∀ {a b : List Wd}, tlt a b → ¬ tlt b a
  | [], [], h, _ => h
  | [], _ :: _, _, k => k
  | _ :: _, [], h, _ => h
  | x :: a, y :: b, h, k => by
    have wa : ∀ {x y : Wd}, wlt x y → ¬ wlt y x := fun {x y} h k => by
      rcases h with h | h
      · rcases k with k | k <;> omega
      · rcases k with k | k
        · omega
        · exact absurd (List.lt_trans h.2 k.2) (lt_irr x)
    rcases h with h | ⟨rfl, h⟩
    · rcases k with k | ⟨rfl, k⟩
      · exact wa h k
      · exact wlt_irr _ h
    · rcases k with k | ⟨_, k⟩
      · exact wlt_irr _ k
      · exact tlt_asym h k
theorem tw_le {A : List Nat} (hA : A.Pairwise (· < ·)) (m t : Nat) : (tw A m t).Pairwise fun a b => leK a b = true :=
  (List.Pairwise.and_mem.mp (tw_srt hA m t)).imp fun {a b} ⟨ha, hb, h⟩ => by
    rw [leK_iff]
    have e1 := (tw_mem.mp ha).2.1
    have e2 := (tw_mem.mp hb).2.1
    rintro (k | k)
    · omega
    · exact tlt_asym h k.2
theorem srt_fdl {A : List Nat} (hA : A.Pairwise (· < ·)) (t k : Nat) : srt (fdl A t k) = tw A (k + 1) t := srt_uniq (fdl_perm hA t k) (tw_le hA _ _)
end MC.Law
set_option Elab.async false
set_option linter.all false
set_option maxRecDepth 100000
set_option maxHeartbeats 4000000
/-! keys and comprehensions over images -/
namespace MC.Law
open PySem
theorem lcLoop_img {α : Type} {vs : List Nat} {h : PV → M Unit} {ft : M Bool} {fe : M PV} {ρ : Env} (f g : α → PV) : ∀ (l : List α),
    (∀ a ∈ l, ∃ ρ1, (h (f a) >>= fun _ => ft) ρ = some (true, ρ1) ∧ ∃ ρ2, fe ρ1 = some (g a, ρ2) ∧ clear vs ρ2 = ρ) → lcLoop vs h ft fe (l.map f) ρ = some (l.map g, ρ)
  | [], _ => rfl
  | x :: xs, hs => by
    have ih := lcLoop_img f g xs fun y hy => hs y (List.mem_cons_of_mem _ hy)
    obtain ⟨ρ1, h1, ρ2, h2, h3⟩ := hs x List.mem_cons_self
    rw [List.map_cons]
    unfold lcLoop
    rw [bind_run] at h1 ⊢
    cases q : h (f x) ρ with
    | none => rw [q] at h1; cases h1
    | some z =>
      rw [q] at h1
      refine bind_of (show ft z.2 = some (true, ρ1) from h1) ?_
      rw [if_pos rfl]
      refine bind_of h2 (bind_of rfl ?_)
      rw [h3]
      exact bind_of ih rfl
theorem lcM_img {α : Type} {fi : M (List PV)} {vs : List Nat} {h : PV → M Unit} {ft : M Bool} {fe : M PV} {ρ ρ1 : Env} {l : List α} (f g : α → PV) (hi : fi ρ = some (l.map f, ρ1)) (hc : clear vs ρ1 = ρ1) (hr : restore ρ1 vs ρ1 = ρ1)
    (hs : ∀ a ∈ l, ∃ ρ2, (h (f a) >>= fun _ => ft) ρ1 = some (true, ρ2) ∧ ∃ ρ3, fe ρ2 = some (g a, ρ3) ∧ clear vs ρ3 = ρ1) (hn : l.length ≤ 100000) :
    lcM fi vs h ft fe ρ = some ((true, .lst (l.map g)), ρ1) :=
  lcM_run hi (by rw [hc]; exact lcLoop_img f g l hs) hr (by rw [List.length_map]; exact hn)
theorem forM_pre {α : Type} {h : PV → M Unit} {f : M Fl} (img : α → PV) (P : List α → Env → Prop) (l : List α) {ρ : Env} (h0 : P [] ρ)
    (hs : ∀ pre a post ρ, l = pre ++ a :: post → P pre ρ → ∃ ρ', (h (img a) >>= fun _ => f) ρ = some (.nx, ρ') ∧ P (pre ++ [a]) ρ') : ∃ ρ', forM h f (l.map img) ρ = some (.nx, ρ') ∧ P l ρ' := by
  obtain ⟨ρ', h1, h2⟩ := forM_inv (h := h) (f := f) (fun i ρ => P (l.take i) ρ) (l.map img) 0 ρ (by rw [List.take_zero]; exact h0) (by
    intro i x ρ1 hx hp
    rw [List.getElem?_map] at hx
    obtain ⟨a, ha, rfl⟩ := Option.map_eq_some_iff.mp hx
    rw [Nat.zero_add] at hp ⊢
    obtain ⟨hi, ea⟩ := List.getElem?_eq_some_iff.mp ha
    obtain ⟨ρ2, e, p2⟩ := hs (l.take i) a (l.drop (i + 1)) ρ1 (by rw [← ea, ← List.drop_eq_getElem_cons, List.take_append_drop]) hp
    exact ⟨ρ2, .inl e, by rw [List.take_add_one, ha]; exact p2⟩)
  rw [Nat.zero_add, List.length_map, List.take_length] at h2
  exact ⟨ρ', h1, h2⟩
/-! keys -/
theorem intsOf_map {α : Type} (g : α → Int) : ∀ l : List α, intsOf (l.map fun x => .int (g x)) = some (l.map g)
  | [] => rfl
  | x :: l => by rw [List.map_cons, List.map_cons]; unfold intsOf; rw [intsOf_map g l]; rfl
theorem sum_len (ws : List Wd) : (ws.map fun w => (w.length : Int)).sum = total ws := by
  unfold total
  induction ws with
  | nil => rfl
  | cons w ws ih => rw [List.map_cons, List.map_cons, List.sum_cons, List.sum_cons, ih]; omega
theorem sumP_lens (ws : List Wd) : sumP (.lst (ws.map fun w => .int w.length)) = some (false, .int (total ws)) := by
  show (intsOf _).bind _ = _
  rw [intsOf_map fun w : Wd => (w.length : Int)]
  show some (false, PV.int _) = _
  rw [sum_len]
theorem s_lens (w : Wd) : (PySem.Str.length ⟨⟨w⟩⟩ : Nat) = w.length := rfl
theorem fits_sm {n : Nat} (h : n ≤ 100000) : fits n = true := fits_of h
theorem f2 : fits 2 = true := fits_of (by decide)
theorem f1' : fits 1 = true := fits_of (by decide)
theorem lenS {w : List Nat} (h : w.length ≤ 1000) : lenP (S w) = some (false, .int w.length) := lenP_s (fits_of (by omega))
theorem lc1_order {ws : List Wd} (hn : ws.length ≤ 1000) (hw : ∀ w ∈ ws, w.length ≤ 1000) : lc1__law_order [some (false, TU ws), none] = some ((true, .lst (ws.map fun w => .int w.length)), [some (false, TU ws), none]) := by
  unfold lc1__law_order
  refine lcM_img (ρ1 := [some (false, TU ws), none]) S (fun w => .int w.length) (by simp -implicitDefEqProofs [bind_run, pure_run, lift_run, ite_run, bad_run, fnOf, runF, argE, seqM, ifM, asT, bin2, bin2v, un1, unL, asF, setM, setIxM, augIxM, augM, retM, giveM, dropM, look, take, put, frz1, ownsAny, owns, store, change, mutM, onL, isB, truM, truP, MC.notM, MC.andM, MC.orM, chain, tupM, lstM, consM, outs, callM, valM, slotM, argSlots, frzS, resolve, ioSlots, setIo, itemsM, itemsOf, PV.flat, isi_int_int, isi_int_bool, isi_int_str, isi_int_tuple, isi_int_list, isi_str_int, isi_str_bool, isi_str_str, isi_str_tuple, isi_str_list, isi_tuple_int, isi_tuple_bool, isi_tuple_str, isi_tuple_tuple, isi_tuple_list, isi_list_int, isi_list_bool, isi_list_str, isi_list_tuple, isi_list_list, isi_NoneType_int, isi_NoneType_bool, isi_NoneType_str, isi_NoneType_tuple, isi_NoneType_list, isi_bool_int, isi_bool_bool, isi_bool_str, isi_bool_tuple, isi_bool_list, strM, eqP_bb, neP_bb, andV, orV, notV, slM, slMv, asInt, str_len, addP_ii, addP_ib, addP_ss, addP_ll, addP_tt, iaddP_ii, subP_ii, mulP_ii, mulP_si, fdivP_ii, modP_ii, negP_i, absP_i, intP_i, intP_b, ltP_ii, leP_ii, gtP_ii, geP_ii, ltP_ss, leP_ss, gtP_ss, geP_ss, eqP_ii, eqP_ss, neP_ii, neP_ss, isP_b, isNotP_b, inP_1, notInP_1, lenP_s, lenP_l, lenP_t, lenP_q, listP_s, listP_l, listP_t, tupleP_l, tupleP_t, ixP_l, ixP_t, ixP_q, ixP_s, atI_nat, atI_2, atI_3, atI_4, atI_0, atI_1, atI_last, setV_l, getV_l, ixN_nat, ixN_2, ixN_3, ixN_4, ixN_0, ixN_1, popP_n, appendP_1, extendP_l, slP_to, slP_from, slP_tto, slP_tfrom, slP_lto, slP_lfrom, MC.when, fl]) rfl rfl (fun w hm => ⟨[some (false, TU ws), some (false, S w)], by simp -implicitDefEqProofs [bind_run, pure_run, lift_run, ite_run, bad_run, fnOf, runF, argE, seqM, ifM, asT, bin2, bin2v, un1, unL, asF, setM, setIxM, augIxM, augM, retM, giveM, dropM, look, take, put, frz1, ownsAny, owns, store, change, mutM, onL, isB, truM, truP, MC.notM, MC.andM, MC.orM, chain, tupM, lstM, consM, outs, callM, valM, slotM, argSlots, frzS, resolve, ioSlots, setIo, itemsM, itemsOf, PV.flat, isi_int_int, isi_int_bool, isi_int_str, isi_int_tuple, isi_int_list, isi_str_int, isi_str_bool, isi_str_str, isi_str_tuple, isi_str_list, isi_tuple_int, isi_tuple_bool, isi_tuple_str, isi_tuple_tuple, isi_tuple_list, isi_list_int, isi_list_bool, isi_list_str, isi_list_tuple, isi_list_list, isi_NoneType_int, isi_NoneType_bool, isi_NoneType_str, isi_NoneType_tuple, isi_NoneType_list, isi_bool_int, isi_bool_bool, isi_bool_str, isi_bool_tuple, isi_bool_list, strM, eqP_bb, neP_bb, andV, orV, notV, slM, slMv, asInt, str_len, addP_ii, addP_ib, addP_ss, addP_ll, addP_tt, iaddP_ii, subP_ii, mulP_ii, mulP_si, fdivP_ii, modP_ii, negP_i, absP_i, intP_i, intP_b, ltP_ii, leP_ii, gtP_ii, geP_ii, ltP_ss, leP_ss, gtP_ss, geP_ss, eqP_ii, eqP_ss, neP_ii, neP_ss, isP_b, isNotP_b, inP_1, notInP_1, lenP_s, lenP_l, lenP_t, lenP_q, listP_s, listP_l, listP_t, tupleP_l, tupleP_t, ixP_l, ixP_t, ixP_q, ixP_s, atI_nat, atI_2, atI_3, atI_4, atI_0, atI_1, atI_last, setV_l, getV_l, ixN_nat, ixN_2, ixN_3, ixN_4, ixN_0, ixN_1, popP_n, appendP_1, extendP_l, slP_to, slP_from, slP_tto, slP_tfrom, slP_lto, slP_lfrom, MC.when, fl], [some (false, TU ws), some (false, S w)], by simp -implicitDefEqProofs [lenS (hw w hm), bind_run, pure_run, lift_run, ite_run, bad_run, fnOf, runF, argE, seqM, ifM, asT, bin2, bin2v, un1, unL, asF, setM, setIxM, augIxM, augM, retM, giveM, dropM, look, take, put, frz1, ownsAny, owns, store, change, mutM, onL, isB, truM, truP, MC.notM, MC.andM, MC.orM, chain, tupM, lstM, consM, outs, callM, valM, slotM, argSlots, frzS, resolve, ioSlots, setIo, itemsM, itemsOf, PV.flat, isi_int_int, isi_int_bool, isi_int_str, isi_int_tuple, isi_int_list, isi_str_int, isi_str_bool, isi_str_str, isi_str_tuple, isi_str_list, isi_tuple_int, isi_tuple_bool, isi_tuple_str, isi_tuple_tuple, isi_tuple_list, isi_list_int, isi_list_bool, isi_list_str, isi_list_tuple, isi_list_list, isi_NoneType_int, isi_NoneType_bool, isi_NoneType_str, isi_NoneType_tuple, isi_NoneType_list, isi_bool_int, isi_bool_bool, isi_bool_str, isi_bool_tuple, isi_bool_list, strM, eqP_bb, neP_bb, andV, orV, notV, slM, slMv, asInt, str_len, addP_ii, addP_ib, addP_ss, addP_ll, addP_tt, iaddP_ii, subP_ii, mulP_ii, mulP_si, fdivP_ii, modP_ii, negP_i, absP_i, intP_i, intP_b, ltP_ii, leP_ii, gtP_ii, geP_ii, ltP_ss, leP_ss, gtP_ss, geP_ss, eqP_ii, eqP_ss, neP_ii, neP_ss, isP_b, isNotP_b, inP_1, notInP_1, lenP_s, lenP_l, lenP_t, lenP_q, listP_s, listP_l, listP_t, tupleP_l, tupleP_t, ixP_l, ixP_t, ixP_q, ixP_s, atI_nat, atI_2, atI_3, atI_4, atI_0, atI_1, atI_last, setV_l, getV_l, ixN_nat, ixN_2, ixN_3, ixN_4, ixN_0, ixN_1, popP_n, appendP_1, extendP_l, slP_to, slP_from, slP_tto, slP_tfrom, slP_lto, slP_lfrom, MC.when, fl], rfl⟩) (by omega)
theorem lc2_order {ws : List Wd} (hn : ws.length ≤ 1000) (hw : ∀ w ∈ ws, w.length ≤ 1000) : lc2__law_order [some (false, TU ws), none] = some ((true, .lst (ws.map WP)), [some (false, TU ws), none]) := by
  unfold lc2__law_order
  refine lcM_img (ρ1 := [some (false, TU ws), none]) S WP (by simp -implicitDefEqProofs [bind_run, pure_run, lift_run, ite_run, bad_run, fnOf, runF, argE, seqM, ifM, asT, bin2, bin2v, un1, unL, asF, setM, setIxM, augIxM, augM, retM, giveM, dropM, look, take, put, frz1, ownsAny, owns, store, change, mutM, onL, isB, truM, truP, MC.notM, MC.andM, MC.orM, chain, tupM, lstM, consM, outs, callM, valM, slotM, argSlots, frzS, resolve, ioSlots, setIo, itemsM, itemsOf, PV.flat, isi_int_int, isi_int_bool, isi_int_str, isi_int_tuple, isi_int_list, isi_str_int, isi_str_bool, isi_str_str, isi_str_tuple, isi_str_list, isi_tuple_int, isi_tuple_bool, isi_tuple_str, isi_tuple_tuple, isi_tuple_list, isi_list_int, isi_list_bool, isi_list_str, isi_list_tuple, isi_list_list, isi_NoneType_int, isi_NoneType_bool, isi_NoneType_str, isi_NoneType_tuple, isi_NoneType_list, isi_bool_int, isi_bool_bool, isi_bool_str, isi_bool_tuple, isi_bool_list, strM, eqP_bb, neP_bb, andV, orV, notV, slM, slMv, asInt, str_len, addP_ii, addP_ib, addP_ss, addP_ll, addP_tt, iaddP_ii, subP_ii, mulP_ii, mulP_si, fdivP_ii, modP_ii, negP_i, absP_i, intP_i, intP_b, ltP_ii, leP_ii, gtP_ii, geP_ii, ltP_ss, leP_ss, gtP_ss, geP_ss, eqP_ii, eqP_ss, neP_ii, neP_ss, isP_b, isNotP_b, inP_1, notInP_1, lenP_s, lenP_l, lenP_t, lenP_q, listP_s, listP_l, listP_t, tupleP_l, tupleP_t, ixP_l, ixP_t, ixP_q, ixP_s, atI_nat, atI_2, atI_3, atI_4, atI_0, atI_1, atI_last, setV_l, getV_l, ixN_nat, ixN_2, ixN_3, ixN_4, ixN_0, ixN_1, popP_n, appendP_1, extendP_l, slP_to, slP_from, slP_tto, slP_tfrom, slP_lto, slP_lfrom, MC.when, fl]) rfl rfl (fun w hm => ⟨[some (false, TU ws), some (false, S w)], by simp -implicitDefEqProofs [bind_run, pure_run, lift_run, ite_run, bad_run, fnOf, runF, argE, seqM, ifM, asT, bin2, bin2v, un1, unL, asF, setM, setIxM, augIxM, augM, retM, giveM, dropM, look, take, put, frz1, ownsAny, owns, store, change, mutM, onL, isB, truM, truP, MC.notM, MC.andM, MC.orM, chain, tupM, lstM, consM, outs, callM, valM, slotM, argSlots, frzS, resolve, ioSlots, setIo, itemsM, itemsOf, PV.flat, isi_int_int, isi_int_bool, isi_int_str, isi_int_tuple, isi_int_list, isi_str_int, isi_str_bool, isi_str_str, isi_str_tuple, isi_str_list, isi_tuple_int, isi_tuple_bool, isi_tuple_str, isi_tuple_tuple, isi_tuple_list, isi_list_int, isi_list_bool, isi_list_str, isi_list_tuple, isi_list_list, isi_NoneType_int, isi_NoneType_bool, isi_NoneType_str, isi_NoneType_tuple, isi_NoneType_list, isi_bool_int, isi_bool_bool, isi_bool_str, isi_bool_tuple, isi_bool_list, strM, eqP_bb, neP_bb, andV, orV, notV, slM, slMv, asInt, str_len, addP_ii, addP_ib, addP_ss, addP_ll, addP_tt, iaddP_ii, subP_ii, mulP_ii, mulP_si, fdivP_ii, modP_ii, negP_i, absP_i, intP_i, intP_b, ltP_ii, leP_ii, gtP_ii, geP_ii, ltP_ss, leP_ss, gtP_ss, geP_ss, eqP_ii, eqP_ss, neP_ii, neP_ss, isP_b, isNotP_b, inP_1, notInP_1, lenP_s, lenP_l, lenP_t, lenP_q, listP_s, listP_l, listP_t, tupleP_l, tupleP_t, ixP_l, ixP_t, ixP_q, ixP_s, atI_nat, atI_2, atI_3, atI_4, atI_0, atI_1, atI_last, setV_l, getV_l, ixN_nat, ixN_2, ixN_3, ixN_4, ixN_0, ixN_1, popP_n, appendP_1, extendP_l, slP_to, slP_from, slP_tto, slP_tfrom, slP_lto, slP_lfrom, MC.when, fl], [some (false, TU ws), some (false, S w)], by simp -implicitDefEqProofs [lenS (hw w hm), f2, bind_run, pure_run, lift_run, ite_run, bad_run, fnOf, runF, argE, seqM, ifM, asT, bin2, bin2v, un1, unL, asF, setM, setIxM, augIxM, augM, retM, giveM, dropM, look, take, put, frz1, ownsAny, owns, store, change, mutM, onL, isB, truM, truP, MC.notM, MC.andM, MC.orM, chain, tupM, lstM, consM, outs, callM, valM, slotM, argSlots, frzS, resolve, ioSlots, setIo, itemsM, itemsOf, PV.flat, isi_int_int, isi_int_bool, isi_int_str, isi_int_tuple, isi_int_list, isi_str_int, isi_str_bool, isi_str_str, isi_str_tuple, isi_str_list, isi_tuple_int, isi_tuple_bool, isi_tuple_str, isi_tuple_tuple, isi_tuple_list, isi_list_int, isi_list_bool, isi_list_str, isi_list_tuple, isi_list_list, isi_NoneType_int, isi_NoneType_bool, isi_NoneType_str, isi_NoneType_tuple, isi_NoneType_list, isi_bool_int, isi_bool_bool, isi_bool_str, isi_bool_tuple, isi_bool_list, strM, eqP_bb, neP_bb, andV, orV, notV, slM, slMv, asInt, str_len, addP_ii, addP_ib, addP_ss, addP_ll, addP_tt, iaddP_ii, subP_ii, mulP_ii, mulP_si, fdivP_ii, modP_ii, negP_i, absP_i, intP_i, intP_b, ltP_ii, leP_ii, gtP_ii, geP_ii, ltP_ss, leP_ss, gtP_ss, geP_ss, eqP_ii, eqP_ss, neP_ii, neP_ss, isP_b, isNotP_b, inP_1, notInP_1, lenP_s, lenP_l, lenP_t, lenP_q, listP_s, listP_l, listP_t, tupleP_l, tupleP_t, ixP_l, ixP_t, ixP_q, ixP_s, atI_nat, atI_2, atI_3, atI_4, atI_0, atI_1, atI_last, setV_l, getV_l, ixN_nat, ixN_2, ixN_3, ixN_4, ixN_0, ixN_1, popP_n, appendP_1, extendP_l, slP_to, slP_from, slP_tto, slP_tfrom, slP_lto, slP_lfrom, MC.when, fl], rfl⟩) (by omega)
theorem order_ok {ws : List Wd} (hn : ws.length ≤ 1000) (hw : ∀ w ∈ ws, w.length ≤ 1000) : F__law_order [TU ws] = some ((false, KO ws), []) := by
  have h1 := lc1_order hn hw
  have h2 := lc2_order hn hw
  have h3 := sumP_lens ws
  unfold KO
  generalize (ws.map fun w : Wd => PV.int w.length) = Z1 at h1 h3
  generalize ws.map WP = Z2 at h2 ⊢
  generalize total ws = T1 at *
  simp -implicitDefEqProofs [F__law_order, sem__law_order, h1, h2, h3, f2, bind_run, pure_run, lift_run, ite_run, bad_run, fnOf, runF, argE, seqM, ifM, asT, bin2, bin2v, un1, unL, asF, setM, setIxM, augIxM, augM, retM, giveM, dropM, look, take, put, frz1, ownsAny, owns, store, change, mutM, onL, isB, truM, truP, MC.notM, MC.andM, MC.orM, chain, tupM, lstM, consM, outs, callM, valM, slotM, argSlots, frzS, resolve, ioSlots, setIo, itemsM, itemsOf, PV.flat, isi_int_int, isi_int_bool, isi_int_str, isi_int_tuple, isi_int_list, isi_str_int, isi_str_bool, isi_str_str, isi_str_tuple, isi_str_list, isi_tuple_int, isi_tuple_bool, isi_tuple_str, isi_tuple_tuple, isi_tuple_list, isi_list_int, isi_list_bool, isi_list_str, isi_list_tuple, isi_list_list, isi_NoneType_int, isi_NoneType_bool, isi_NoneType_str, isi_NoneType_tuple, isi_NoneType_list, isi_bool_int, isi_bool_bool, isi_bool_str, isi_bool_tuple, isi_bool_list, strM, eqP_bb, neP_bb, andV, orV, notV, slM, slMv, asInt, str_len, addP_ii, addP_ib, addP_ss, addP_ll, addP_tt, iaddP_ii, subP_ii, mulP_ii, mulP_si, fdivP_ii, modP_ii, negP_i, absP_i, intP_i, intP_b, ltP_ii, leP_ii, gtP_ii, geP_ii, ltP_ss, leP_ss, gtP_ss, geP_ss, eqP_ii, eqP_ss, neP_ii, neP_ss, isP_b, isNotP_b, inP_1, notInP_1, lenP_s, lenP_l, lenP_t, lenP_q, listP_s, listP_l, listP_t, tupleP_l, tupleP_t, ixP_l, ixP_t, ixP_q, ixP_s, atI_nat, atI_2, atI_3, atI_4, atI_0, atI_1, atI_last, setV_l, getV_l, ixN_nat, ixN_2, ixN_3, ixN_4, ixN_0, ixN_1, popP_n, appendP_1, extendP_l, slP_to, slP_from, slP_tto, slP_tfrom, slP_lto, slP_lfrom, MC.when, fl]
theorem wkey_ok {w : Wd} (hw : w.length ≤ 1000) : F_word_key [S w] = some ((false, WP w), []) := by
  simp -implicitDefEqProofs [F_word_key, sem_word_key, lenS hw, f2, bind_run, pure_run, lift_run, ite_run, bad_run, fnOf, runF, argE, seqM, ifM, asT, bin2, bin2v, un1, unL, asF, setM, setIxM, augIxM, augM, retM, giveM, dropM, look, take, put, frz1, ownsAny, owns, store, change, mutM, onL, isB, truM, truP, MC.notM, MC.andM, MC.orM, chain, tupM, lstM, consM, outs, callM, valM, slotM, argSlots, frzS, resolve, ioSlots, setIo, itemsM, itemsOf, PV.flat, isi_int_int, isi_int_bool, isi_int_str, isi_int_tuple, isi_int_list, isi_str_int, isi_str_bool, isi_str_str, isi_str_tuple, isi_str_list, isi_tuple_int, isi_tuple_bool, isi_tuple_str, isi_tuple_tuple, isi_tuple_list, isi_list_int, isi_list_bool, isi_list_str, isi_list_tuple, isi_list_list, isi_NoneType_int, isi_NoneType_bool, isi_NoneType_str, isi_NoneType_tuple, isi_NoneType_list, isi_bool_int, isi_bool_bool, isi_bool_str, isi_bool_tuple, isi_bool_list, strM, eqP_bb, neP_bb, andV, orV, notV, slM, slMv, asInt, str_len, addP_ii, addP_ib, addP_ss, addP_ll, addP_tt, iaddP_ii, subP_ii, mulP_ii, mulP_si, fdivP_ii, modP_ii, negP_i, absP_i, intP_i, intP_b, ltP_ii, leP_ii, gtP_ii, geP_ii, ltP_ss, leP_ss, gtP_ss, geP_ss, eqP_ii, eqP_ss, neP_ii, neP_ss, isP_b, isNotP_b, inP_1, notInP_1, lenP_s, lenP_l, lenP_t, lenP_q, listP_s, listP_l, listP_t, tupleP_l, tupleP_t, ixP_l, ixP_t, ixP_q, ixP_s, atI_nat, atI_2, atI_3, atI_4, atI_0, atI_1, atI_last, setV_l, getV_l, ixN_nat, ixN_2, ixN_3, ixN_4, ixN_0, ixN_1, popP_n, appendP_1, extendP_l, slP_to, slP_from, slP_tto, slP_tfrom, slP_lto, slP_lfrom, MC.when, fl]
theorem lc2_mkey {ws : List Wd} (hn : ws.length ≤ 1000) (hw : ∀ w ∈ ws, w.length ≤ 1000) : lc2_model_key [some (false, TU ws), none] = some ((true, .lst (ws.map WP)), [some (false, TU ws), none]) := by
  unfold lc2_model_key
  refine lcM_img (ρ1 := [some (false, TU ws), none]) S WP (by simp -implicitDefEqProofs [bind_run, pure_run, lift_run, ite_run, bad_run, fnOf, runF, argE, seqM, ifM, asT, bin2, bin2v, un1, unL, asF, setM, setIxM, augIxM, augM, retM, giveM, dropM, look, take, put, frz1, ownsAny, owns, store, change, mutM, onL, isB, truM, truP, MC.notM, MC.andM, MC.orM, chain, tupM, lstM, consM, outs, callM, valM, slotM, argSlots, frzS, resolve, ioSlots, setIo, itemsM, itemsOf, PV.flat, isi_int_int, isi_int_bool, isi_int_str, isi_int_tuple, isi_int_list, isi_str_int, isi_str_bool, isi_str_str, isi_str_tuple, isi_str_list, isi_tuple_int, isi_tuple_bool, isi_tuple_str, isi_tuple_tuple, isi_tuple_list, isi_list_int, isi_list_bool, isi_list_str, isi_list_tuple, isi_list_list, isi_NoneType_int, isi_NoneType_bool, isi_NoneType_str, isi_NoneType_tuple, isi_NoneType_list, isi_bool_int, isi_bool_bool, isi_bool_str, isi_bool_tuple, isi_bool_list, strM, eqP_bb, neP_bb, andV, orV, notV, slM, slMv, asInt, str_len, addP_ii, addP_ib, addP_ss, addP_ll, addP_tt, iaddP_ii, subP_ii, mulP_ii, mulP_si, fdivP_ii, modP_ii, negP_i, absP_i, intP_i, intP_b, ltP_ii, leP_ii, gtP_ii, geP_ii, ltP_ss, leP_ss, gtP_ss, geP_ss, eqP_ii, eqP_ss, neP_ii, neP_ss, isP_b, isNotP_b, inP_1, notInP_1, lenP_s, lenP_l, lenP_t, lenP_q, listP_s, listP_l, listP_t, tupleP_l, tupleP_t, ixP_l, ixP_t, ixP_q, ixP_s, atI_nat, atI_2, atI_3, atI_4, atI_0, atI_1, atI_last, setV_l, getV_l, ixN_nat, ixN_2, ixN_3, ixN_4, ixN_0, ixN_1, popP_n, appendP_1, extendP_l, slP_to, slP_from, slP_tto, slP_tfrom, slP_lto, slP_lfrom, MC.when, fl]) rfl rfl (fun w hm => ⟨[some (false, TU ws), some (false, S w)], by simp -implicitDefEqProofs [bind_run, pure_run, lift_run, ite_run, bad_run, fnOf, runF, argE, seqM, ifM, asT, bin2, bin2v, un1, unL, asF, setM, setIxM, augIxM, augM, retM, giveM, dropM, look, take, put, frz1, ownsAny, owns, store, change, mutM, onL, isB, truM, truP, MC.notM, MC.andM, MC.orM, chain, tupM, lstM, consM, outs, callM, valM, slotM, argSlots, frzS, resolve, ioSlots, setIo, itemsM, itemsOf, PV.flat, isi_int_int, isi_int_bool, isi_int_str, isi_int_tuple, isi_int_list, isi_str_int, isi_str_bool, isi_str_str, isi_str_tuple, isi_str_list, isi_tuple_int, isi_tuple_bool, isi_tuple_str, isi_tuple_tuple, isi_tuple_list, isi_list_int, isi_list_bool, isi_list_str, isi_list_tuple, isi_list_list, isi_NoneType_int, isi_NoneType_bool, isi_NoneType_str, isi_NoneType_tuple, isi_NoneType_list, isi_bool_int, isi_bool_bool, isi_bool_str, isi_bool_tuple, isi_bool_list, strM, eqP_bb, neP_bb, andV, orV, notV, slM, slMv, asInt, str_len, addP_ii, addP_ib, addP_ss, addP_ll, addP_tt, iaddP_ii, subP_ii, mulP_ii, mulP_si, fdivP_ii, modP_ii, negP_i, absP_i, intP_i, intP_b, ltP_ii, leP_ii, gtP_ii, geP_ii, ltP_ss, leP_ss, gtP_ss, geP_ss, eqP_ii, eqP_ss, neP_ii, neP_ss, isP_b, isNotP_b, inP_1, notInP_1, lenP_s, lenP_l, lenP_t, lenP_q, listP_s, listP_l, listP_t, tupleP_l, tupleP_t, ixP_l, ixP_t, ixP_q, ixP_s, atI_nat, atI_2, atI_3, atI_4, atI_0, atI_1, atI_last, setV_l, getV_l, ixN_nat, ixN_2, ixN_3, ixN_4, ixN_0, ixN_1, popP_n, appendP_1, extendP_l, slP_to, slP_from, slP_tto, slP_tfrom, slP_lto, slP_lfrom, MC.when, fl], [some (false, TU ws), some (false, S w)], ?_, rfl⟩) (by omega)
  have := wkey_ok (hw w hm)
  simp -implicitDefEqProofs [this, bind_run, pure_run, lift_run, ite_run, bad_run, fnOf, runF, argE, seqM, ifM, asT, bin2, bin2v, un1, unL, asF, setM, setIxM, augIxM, augM, retM, giveM, dropM, look, take, put, frz1, ownsAny, owns, store, change, mutM, onL, isB, truM, truP, MC.notM, MC.andM, MC.orM, chain, tupM, lstM, consM, outs, callM, valM, slotM, argSlots, frzS, resolve, ioSlots, setIo, itemsM, itemsOf, PV.flat, isi_int_int, isi_int_bool, isi_int_str, isi_int_tuple, isi_int_list, isi_str_int, isi_str_bool, isi_str_str, isi_str_tuple, isi_str_list, isi_tuple_int, isi_tuple_bool, isi_tuple_str, isi_tuple_tuple, isi_tuple_list, isi_list_int, isi_list_bool, isi_list_str, isi_list_tuple, isi_list_list, isi_NoneType_int, isi_NoneType_bool, isi_NoneType_str, isi_NoneType_tuple, isi_NoneType_list, isi_bool_int, isi_bool_bool, isi_bool_str, isi_bool_tuple, isi_bool_list, strM, eqP_bb, neP_bb, andV, orV, notV, slM, slMv, asInt, str_len, addP_ii, addP_ib, addP_ss, addP_ll, addP_tt, iaddP_ii, subP_ii, mulP_ii, mulP_si, fdivP_ii, modP_ii, negP_i, absP_i, intP_i, intP_b, ltP_ii, leP_ii, gtP_ii, geP_ii, ltP_ss, leP_ss, gtP_ss, geP_ss, eqP_ii, eqP_ss, neP_ii, neP_ss, isP_b, isNotP_b, inP_1, notInP_1, lenP_s, lenP_l, lenP_t, lenP_q, listP_s, listP_l, listP_t, tupleP_l, tupleP_t, ixP_l, ixP_t, ixP_q, ixP_s, atI_nat, atI_2, atI_3, atI_4, atI_0, atI_1, atI_last, setV_l, getV_l, ixN_nat, ixN_2, ixN_3, ixN_4, ixN_0, ixN_1, popP_n, appendP_1, extendP_l, slP_to, slP_from, slP_tto, slP_tfrom, slP_lto, slP_lfrom, MC.when, fl]
theorem mkey_ok {ws : List Wd} (hn : ws.length ≤ 1000) (hw : ∀ w ∈ ws, w.length ≤ 1000) : F_model_key [TU ws] = some ((false, KM ws), []) := by
  have h1 : lc1_model_key [some (false, TU ws), none] = _ := lc1_order hn hw
  have h2 := lc2_mkey hn hw
  have h3 := sumP_lens ws
  unfold KM
  generalize (ws.map fun w : Wd => PV.int w.length) = Z1 at h1 h3
  generalize ws.map WP = Z2 at h2 ⊢
  generalize total ws = T1 at *
  simp -implicitDefEqProofs [F_model_key, sem_model_key, h1, h2, h3, f2, bind_run, pure_run, lift_run, ite_run, bad_run, fnOf, runF, argE, seqM, ifM, asT, bin2, bin2v, un1, unL, asF, setM, setIxM, augIxM, augM, retM, giveM, dropM, look, take, put, frz1, ownsAny, owns, store, change, mutM, onL, isB, truM, truP, MC.notM, MC.andM, MC.orM, chain, tupM, lstM, consM, outs, callM, valM, slotM, argSlots, frzS, resolve, ioSlots, setIo, itemsM, itemsOf, PV.flat, isi_int_int, isi_int_bool, isi_int_str, isi_int_tuple, isi_int_list, isi_str_int, isi_str_bool, isi_str_str, isi_str_tuple, isi_str_list, isi_tuple_int, isi_tuple_bool, isi_tuple_str, isi_tuple_tuple, isi_tuple_list, isi_list_int, isi_list_bool, isi_list_str, isi_list_tuple, isi_list_list, isi_NoneType_int, isi_NoneType_bool, isi_NoneType_str, isi_NoneType_tuple, isi_NoneType_list, isi_bool_int, isi_bool_bool, isi_bool_str, isi_bool_tuple, isi_bool_list, strM, eqP_bb, neP_bb, andV, orV, notV, slM, slMv, asInt, str_len, addP_ii, addP_ib, addP_ss, addP_ll, addP_tt, iaddP_ii, subP_ii, mulP_ii, mulP_si, fdivP_ii, modP_ii, negP_i, absP_i, intP_i, intP_b, ltP_ii, leP_ii, gtP_ii, geP_ii, ltP_ss, leP_ss, gtP_ss, geP_ss, eqP_ii, eqP_ss, neP_ii, neP_ss, isP_b, isNotP_b, inP_1, notInP_1, lenP_s, lenP_l, lenP_t, lenP_q, listP_s, listP_l, listP_t, tupleP_l, tupleP_t, ixP_l, ixP_t, ixP_q, ixP_s, atI_nat, atI_2, atI_3, atI_4, atI_0, atI_1, atI_last, setV_l, getV_l, ixN_nat, ixN_2, ixN_3, ixN_4, ixN_0, ixN_1, popP_n, appendP_1, extendP_l, slP_to, slP_from, slP_tto, slP_tfrom, slP_lto, slP_lfrom, MC.when, fl]
end MC.Law
set_option Elab.async false
set_option linter.all false
set_option maxRecDepth 100000
set_option maxHeartbeats 4000000
/-! word_tuples -/
namespace MC.Law
open PySem
structure Bt (A : List Nat) (m t : Nat) : Prop where
  bm : m ≤ 30
  bt : t ≤ 40
  ba : A.length ≤ 10
  bw : ∀ i, i ≤ t → (wl A i).length ≤ 900
  bl : ∀ i, i < t → (wl A i).length * A.length ≤ 900
  bn : ∀ m' t', m' ≤ m → t' ≤ t → (tw A m' t').length ≤ 1000
theorem Bt.le {A : List Nat} {m t m' t' : Nat} (h : Bt A m t) (k : m' ≤ m) (k2 : t' ≤ t) : Bt A m' t' :=
  ⟨by have := h.bm; omega, by have := h.bt; omega, h.ba, fun i hi => h.bw i (by omega), fun i hi => h.bl i (by omega), fun a b ha hb => h.bn a b (by omega) (by omega)⟩
def Wt (A : List Nat) (m t : Int) (b3 : Bool) (acc : List (List Wd)) (x4 : Option (Bool × PV)) (b5 : Bool) (R : List (List Wd)) (x6 x7 : Option (Bool × PV)) : Env :=
  [some (false, S A), some (false, .int m), some (false, .int t), some (b3, .lst (acc.map TU)), x4, some (b5, .lst (R.map TU)), x6, x7]
theorem addTU (w : Wd) (ws : List Wd) (h : ws.length ≤ 1000) : addP (.tup [S w]) (TU ws) = some (false, TU (w :: ws)) := addP_tt (fits_of (by rw [List.length_map]; simp only [List.length_cons, List.length_nil]; omega))
theorem wt_lc {self : Fn} {A : List Nat} {m t : Int} {acc R : List (List Wd)} {x4 : Option (Bool × PV)} {b5 : Bool} {w : Wd} (hR : R.length ≤ 1000) (hm : ∀ ws ∈ R, ws.length ≤ 1000) :
    lc1_word_tuples self (Wt A m t true acc x4 b5 R (some (false, S w)) none) = some ((true, .lst (R.map fun ws => TU (w :: ws))), Wt A m t true acc x4 false R (some (false, S w)) none) := by
  unfold lc1_word_tuples
  refine lcM_img (ρ1 := Wt A m t true acc x4 false R (some (false, S w)) none) TU (fun ws => TU (w :: ws)) ?_ rfl rfl (fun ws hws => ⟨Wt A m t true acc x4 false R (some (false, S w)) (some (false, TU ws)), ?_, Wt A m t true acc x4 false R (some (false, S w)) (some (false, TU ws)), ?_, rfl⟩) (by omega)
  · unfold Wt
    generalize R.map TU = Z
    cases b5 <;> simp -implicitDefEqProofs [bind_run, pure_run, lift_run, ite_run, bad_run, fnOf, runF, argE, seqM, ifM, asT, bin2, bin2v, un1, unL, asF, setM, setIxM, augIxM, augM, retM, giveM, dropM, look, take, put, frz1, ownsAny, owns, store, change, mutM, onL, isB, truM, truP, MC.notM, MC.andM, MC.orM, chain, tupM, lstM, consM, outs, callM, valM, slotM, argSlots, frzS, resolve, ioSlots, setIo, itemsM, itemsOf, PV.flat, isi_int_int, isi_int_bool, isi_int_str, isi_int_tuple, isi_int_list, isi_str_int, isi_str_bool, isi_str_str, isi_str_tuple, isi_str_list, isi_tuple_int, isi_tuple_bool, isi_tuple_str, isi_tuple_tuple, isi_tuple_list, isi_list_int, isi_list_bool, isi_list_str, isi_list_tuple, isi_list_list, isi_NoneType_int, isi_NoneType_bool, isi_NoneType_str, isi_NoneType_tuple, isi_NoneType_list, isi_bool_int, isi_bool_bool, isi_bool_str, isi_bool_tuple, isi_bool_list, strM, eqP_bb, neP_bb, andV, orV, notV, slM, slMv, asInt, str_len, addP_ii, addP_ib, addP_ss, addP_ll, addP_tt, iaddP_ii, subP_ii, mulP_ii, mulP_si, fdivP_ii, modP_ii, negP_i, absP_i, intP_i, intP_b, ltP_ii, leP_ii, gtP_ii, geP_ii, ltP_ss, leP_ss, gtP_ss, geP_ss, eqP_ii, eqP_ss, neP_ii, neP_ss, isP_b, isNotP_b, inP_1, notInP_1, lenP_s, lenP_l, lenP_t, lenP_q, listP_s, listP_l, listP_t, tupleP_l, tupleP_t, ixP_l, ixP_t, ixP_q, ixP_s, atI_nat, atI_2, atI_3, atI_4, atI_0, atI_1, atI_last, setV_l, getV_l, ixN_nat, ixN_2, ixN_3, ixN_4, ixN_0, ixN_1, popP_n, appendP_1, extendP_l, slP_to, slP_from, slP_tto, slP_tfrom, slP_lto, slP_lfrom, MC.when, fl]
  · unfold Wt; simp -implicitDefEqProofs [bind_run, pure_run, lift_run, ite_run, bad_run, fnOf, runF, argE, seqM, ifM, asT, bin2, bin2v, un1, unL, asF, setM, setIxM, augIxM, augM, retM, giveM, dropM, look, take, put, frz1, ownsAny, owns, store, change, mutM, onL, isB, truM, truP, MC.notM, MC.andM, MC.orM, chain, tupM, lstM, consM, outs, callM, valM, slotM, argSlots, frzS, resolve, ioSlots, setIo, itemsM, itemsOf, PV.flat, isi_int_int, isi_int_bool, isi_int_str, isi_int_tuple, isi_int_list, isi_str_int, isi_str_bool, isi_str_str, isi_str_tuple, isi_str_list, isi_tuple_int, isi_tuple_bool, isi_tuple_str, isi_tuple_tuple, isi_tuple_list, isi_list_int, isi_list_bool, isi_list_str, isi_list_tuple, isi_list_list, isi_NoneType_int, isi_NoneType_bool, isi_NoneType_str, isi_NoneType_tuple, isi_NoneType_list, isi_bool_int, isi_bool_bool, isi_bool_str, isi_bool_tuple, isi_bool_list, strM, eqP_bb, neP_bb, andV, orV, notV, slM, slMv, asInt, str_len, addP_ii, addP_ib, addP_ss, addP_ll, addP_tt, iaddP_ii, subP_ii, mulP_ii, mulP_si, fdivP_ii, modP_ii, negP_i, absP_i, intP_i, intP_b, ltP_ii, leP_ii, gtP_ii, geP_ii, ltP_ss, leP_ss, gtP_ss, geP_ss, eqP_ii, eqP_ss, neP_ii, neP_ss, isP_b, isNotP_b, inP_1, notInP_1, lenP_s, lenP_l, lenP_t, lenP_q, listP_s, listP_l, listP_t, tupleP_l, tupleP_t, ixP_l, ixP_t, ixP_q, ixP_s, atI_nat, atI_2, atI_3, atI_4, atI_0, atI_1, atI_last, setV_l, getV_l, ixN_nat, ixN_2, ixN_3, ixN_4, ixN_0, ixN_1, popP_n, appendP_1, extendP_l, slP_to, slP_from, slP_tto, slP_tfrom, slP_lto, slP_lfrom, MC.when, fl]
  · unfold Wt
    have := addTU w ws (hm ws hws)
    unfold TU at *
    generalize ws.map S = Z at *
    generalize (w :: ws).map S = Z2 at *
    generalize R.map _ = Z3
    generalize acc.map _ = Z4
    simp -implicitDefEqProofs [this, f1', bind_run, pure_run, lift_run, ite_run, bad_run, fnOf, runF, argE, seqM, ifM, asT, bin2, bin2v, un1, unL, asF, setM, setIxM, augIxM, augM, retM, giveM, dropM, look, take, put, frz1, ownsAny, owns, store, change, mutM, onL, isB, truM, truP, MC.notM, MC.andM, MC.orM, chain, tupM, lstM, consM, outs, callM, valM, slotM, argSlots, frzS, resolve, ioSlots, setIo, itemsM, itemsOf, PV.flat, isi_int_int, isi_int_bool, isi_int_str, isi_int_tuple, isi_int_list, isi_str_int, isi_str_bool, isi_str_str, isi_str_tuple, isi_str_list, isi_tuple_int, isi_tuple_bool, isi_tuple_str, isi_tuple_tuple, isi_tuple_list, isi_list_int, isi_list_bool, isi_list_str, isi_list_tuple, isi_list_list, isi_NoneType_int, isi_NoneType_bool, isi_NoneType_str, isi_NoneType_tuple, isi_NoneType_list, isi_bool_int, isi_bool_bool, isi_bool_str, isi_bool_tuple, isi_bool_list, strM, eqP_bb, neP_bb, andV, orV, notV, slM, slMv, asInt, str_len, addP_ii, addP_ib, addP_ss, addP_ll, addP_tt, iaddP_ii, subP_ii, mulP_ii, mulP_si, fdivP_ii, modP_ii, negP_i, absP_i, intP_i, intP_b, ltP_ii, leP_ii, gtP_ii, geP_ii, ltP_ss, leP_ss, gtP_ss, geP_ss, eqP_ii, eqP_ss, neP_ii, neP_ss, isP_b, isNotP_b, inP_1, notInP_1, lenP_s, lenP_l, lenP_t, lenP_q, listP_s, listP_l, listP_t, tupleP_l, tupleP_t, ixP_l, ixP_t, ixP_q, ixP_s, atI_nat, atI_2, atI_3, atI_4, atI_0, atI_1, atI_last, setV_l, getV_l, ixN_nat, ixN_2, ixN_3, ixN_4, ixN_0, ixN_1, popP_n, appendP_1, extendP_l, slP_to, slP_from, slP_tto, slP_tfrom, slP_lto, slP_lfrom, MC.when, fl]
theorem wt_bd {self : Fn} {A : List Nat} {m t : Int} {acc R : List (List Wd)} {x4 : Option (Bool × PV)} {b5 : Bool} {w : Wd} (hR : R.length ≤ 1000) (hm : ∀ ws ∈ R, ws.length ≤ 1000) (ha : acc.length ≤ 1000) :
    bd1_word_tuples self (Wt A m t true acc x4 b5 R (some (false, S w)) none) = some (.nx, Wt A m t true (acc ++ R.map (w :: ·)) x4 false R (some (false, S w)) none) := by
  unfold bd1_word_tuples
  have h := wt_lc (self := self) (A := A) (m := m) (t := t) (acc := acc) (x4 := x4) (b5 := b5) (w := w) hR hm
  have ex := extendP_l (xs := acc.map TU) (ys := R.map fun ws => TU (w :: ws)) (by rw [List.length_map, List.length_map]; omega)
  have e2 : (acc ++ R.map (w :: ·)).map TU = acc.map TU ++ R.map fun ws => TU (w :: ws) := by rw [List.map_append, List.map_map]; rfl
  unfold Wt at *
  rw [e2]
  generalize acc.map TU = Z1 at *
  generalize (R.map fun ws => TU (w :: ws)) = Z2 at *
  generalize R.map TU = Z3 at *
  simp -implicitDefEqProofs [h, ex, bind_run, pure_run, lift_run, ite_run, bad_run, fnOf, runF, argE, seqM, ifM, asT, bin2, bin2v, un1, unL, asF, setM, setIxM, augIxM, augM, retM, giveM, dropM, look, take, put, frz1, ownsAny, owns, store, change, mutM, onL, isB, truM, truP, MC.notM, MC.andM, MC.orM, chain, tupM, lstM, consM, outs, callM, valM, slotM, argSlots, frzS, resolve, ioSlots, setIo, itemsM, itemsOf, PV.flat, isi_int_int, isi_int_bool, isi_int_str, isi_int_tuple, isi_int_list, isi_str_int, isi_str_bool, isi_str_str, isi_str_tuple, isi_str_list, isi_tuple_int, isi_tuple_bool, isi_tuple_str, isi_tuple_tuple, isi_tuple_list, isi_list_int, isi_list_bool, isi_list_str, isi_list_tuple, isi_list_list, isi_NoneType_int, isi_NoneType_bool, isi_NoneType_str, isi_NoneType_tuple, isi_NoneType_list, isi_bool_int, isi_bool_bool, isi_bool_str, isi_bool_tuple, isi_bool_list, strM, eqP_bb, neP_bb, andV, orV, notV, slM, slMv, asInt, str_len, addP_ii, addP_ib, addP_ss, addP_ll, addP_tt, iaddP_ii, subP_ii, mulP_ii, mulP_si, fdivP_ii, modP_ii, negP_i, absP_i, intP_i, intP_b, ltP_ii, leP_ii, gtP_ii, geP_ii, ltP_ss, leP_ss, gtP_ss, geP_ss, eqP_ii, eqP_ss, neP_ii, neP_ss, isP_b, isNotP_b, inP_1, notInP_1, lenP_s, lenP_l, lenP_t, lenP_q, listP_s, listP_l, listP_t, tupleP_l, tupleP_t, ixP_l, ixP_t, ixP_q, ixP_s, atI_nat, atI_2, atI_3, atI_4, atI_0, atI_1, atI_last, setV_l, getV_l, ixN_nat, ixN_2, ixN_3, ixN_4, ixN_0, ixN_1, popP_n, appendP_1, extendP_l, slP_to, slP_from, slP_tto, slP_tfrom, slP_lto, slP_lfrom, MC.when, fl]
theorem wt_fo {A : List Nat} {m t : Int} {self : Fn} {acc R : List (List Wd)} {f : Nat} {b5 : Bool} (hR : R.length ≤ 1000) (hm : ∀ ws ∈ R, ws.length ≤ 1000) (ha : (acc ++ (wl A f).flatMap fun w => R.map (w :: ·)).length ≤ 1000) (x6 : Option (Bool × PV)) (hf : f ≤ 40) (hl : ∀ i, i < f → (wl A i).length * A.length ≤ 900) :
    ∃ b5' x6', fo1_word_tuples self (Wt A m t true acc (some (false, .int f)) b5 R x6 none) = some (.nx, Wt A m t true (acc ++ (wl A f).flatMap fun w => R.map (w :: ·)) (some (false, .int f)) b5' R x6' none) := by
  have hw := wol_ok (A := A) (n := f) (by omega) (fun i hi => by have := hl i hi; omega)
  obtain ⟨ρ', h1, b5', x6', rfl⟩ := forM_pre (h := put 6 false) (f := bd1_word_tuples self) S (fun pre ρ => ∃ b5' x6', ρ = Wt A m t true (acc ++ pre.flatMap fun w => R.map (w :: ·)) (some (false, .int f)) b5' R x6' none) (wl A f) (ρ := Wt A m t true acc (some (false, .int f)) b5 R x6 none) ⟨b5, x6, by simp⟩ (by
    rintro pre w post _ e ⟨b, x, rfl⟩
    refine ⟨_, bind_of (ρ' := Wt A m t true (acc ++ pre.flatMap fun w => R.map (w :: ·)) (some (false, .int f)) b R (some (false, S w)) none) rfl (wt_bd hR hm ?_), false, some (false, S w), ?_⟩
    · rw [e, List.flatMap_append, List.length_append, List.length_append] at ha
      rw [List.length_append]; omega
    · rw [List.flatMap_append]; simp)
  refine ⟨b5', x6', ?_⟩
  unfold fo1_word_tuples
  refine bind_of (a := (wl A f).map S) (ρ' := Wt A m t true acc (some (false, .int f)) b5 R x6 none) ?_ h1
  generalize (wl A f).map S = Z at hw ⊢
  unfold Wt
  generalize acc.map TU = Z1
  generalize R.map TU = Z2
  simp -implicitDefEqProofs [hw, bind_run, pure_run, lift_run, ite_run, bad_run, fnOf, runF, argE, seqM, ifM, asT, bin2, bin2v, un1, unL, asF, setM, setIxM, augIxM, augM, retM, giveM, dropM, look, take, put, frz1, ownsAny, owns, store, change, mutM, onL, isB, truM, truP, MC.notM, MC.andM, MC.orM, chain, tupM, lstM, consM, outs, callM, valM, slotM, argSlots, frzS, resolve, ioSlots, setIo, itemsM, itemsOf, PV.flat, isi_int_int, isi_int_bool, isi_int_str, isi_int_tuple, isi_int_list, isi_str_int, isi_str_bool, isi_str_str, isi_str_tuple, isi_str_list, isi_tuple_int, isi_tuple_bool, isi_tuple_str, isi_tuple_tuple, isi_tuple_list, isi_list_int, isi_list_bool, isi_list_str, isi_list_tuple, isi_list_list, isi_NoneType_int, isi_NoneType_bool, isi_NoneType_str, isi_NoneType_tuple, isi_NoneType_list, isi_bool_int, isi_bool_bool, isi_bool_str, isi_bool_tuple, isi_bool_list, strM, eqP_bb, neP_bb, andV, orV, notV, slM, slMv, asInt, str_len, addP_ii, addP_ib, addP_ss, addP_ll, addP_tt, iaddP_ii, subP_ii, mulP_ii, mulP_si, fdivP_ii, modP_ii, negP_i, absP_i, intP_i, intP_b, ltP_ii, leP_ii, gtP_ii, geP_ii, ltP_ss, leP_ss, gtP_ss, geP_ss, eqP_ii, eqP_ss, neP_ii, neP_ss, isP_b, isNotP_b, inP_1, notInP_1, lenP_s, lenP_l, lenP_t, lenP_q, listP_s, listP_l, listP_t, tupleP_l, tupleP_t, ixP_l, ixP_t, ixP_q, ixP_s, atI_nat, atI_2, atI_3, atI_4, atI_0, atI_1, atI_last, setV_l, getV_l, ixN_nat, ixN_2, ixN_3, ixN_4, ixN_0, ixN_1, popP_n, appendP_1, extendP_l, slP_to, slP_from, slP_tto, slP_tfrom, slP_lto, slP_lfrom, MC.when, fl]
theorem tw_len_le {A : List Nat} {m t : Nat} {ws : List Wd} (h : ws ∈ tw A m t) : ws.length = m := (tw_mem.mp h).1
theorem tw_pre (A : List Nat) (m : Nat) {i t : Nat} (h : i ≤ t + 1) : ((List.range i).flatMap fun f => (wl A f).flatMap fun w => (tw A m (t - f)).map (w :: ·)).length ≤ (tw A (m + 1) t).length := by
  have e : List.range (t + 1) = List.range i ++ (List.range (t + 1 - i)).map (i + ·) := by rw [← List.range_add]; congr 1; omega
  show _ ≤ ((List.range (t + 1)).flatMap _).length
  rw [e, List.flatMap_append, List.length_append]
  omega
theorem wt_sem {A : List Nat} {m t : Nat} {self : Fn} (B : Bt A (m + 1) t) (hs : ∀ f, f ≤ t → self [S A, .int m, .int (t - f : Nat)] = some ((true, .lst ((tw A m (t - f)).map TU)), [])) :
    fnOf 3 8 [] (sem_word_tuples self) [S A, .int (m + 1 : Nat), .int t] = some ((true, .lst ((tw A (m + 1) t).map TU)), []) := by
  have c0 : ifM (asT (bin2v 1 (pure (.int 0)) eqP)) (retM (ifM (asT (bin2v 2 (pure (.int 0)) eqP)) (lstM (consM (asF (tupM (pure []))) (pure []))) (lstM (pure [])))) (pure .nx) [some (false, S A), some (false, .int (m + 1 : Nat)), some (false, .int t), none, none, none, none, none] = some (.nx, [some (false, S A), some (false, .int (m + 1 : Nat)), some (false, .int t), none, none, none, none, none]) := by
    refine if_f (ρ' := [some (false, S A), some (false, .int (m + 1 : Nat)), some (false, .int t), none, none, none, none, none]) ?_ rfl
    have : ¬ ((m + 1 : Nat) : Int) = 0 := by omega
    generalize ((m + 1 : Nat) : Int) = M at *
    simp -implicitDefEqProofs [this, bind_run, pure_run, lift_run, ite_run, bad_run, fnOf, runF, argE, seqM, ifM, asT, bin2, bin2v, un1, unL, asF, setM, setIxM, augIxM, augM, retM, giveM, dropM, look, take, put, frz1, ownsAny, owns, store, change, mutM, onL, isB, truM, truP, MC.notM, MC.andM, MC.orM, chain, tupM, lstM, consM, outs, callM, valM, slotM, argSlots, frzS, resolve, ioSlots, setIo, itemsM, itemsOf, PV.flat, isi_int_int, isi_int_bool, isi_int_str, isi_int_tuple, isi_int_list, isi_str_int, isi_str_bool, isi_str_str, isi_str_tuple, isi_str_list, isi_tuple_int, isi_tuple_bool, isi_tuple_str, isi_tuple_tuple, isi_tuple_list, isi_list_int, isi_list_bool, isi_list_str, isi_list_tuple, isi_list_list, isi_NoneType_int, isi_NoneType_bool, isi_NoneType_str, isi_NoneType_tuple, isi_NoneType_list, isi_bool_int, isi_bool_bool, isi_bool_str, isi_bool_tuple, isi_bool_list, strM, eqP_bb, neP_bb, andV, orV, notV, slM, slMv, asInt, str_len, addP_ii, addP_ib, addP_ss, addP_ll, addP_tt, iaddP_ii, subP_ii, mulP_ii, mulP_si, fdivP_ii, modP_ii, negP_i, absP_i, intP_i, intP_b, ltP_ii, leP_ii, gtP_ii, geP_ii, ltP_ss, leP_ss, gtP_ss, geP_ss, eqP_ii, eqP_ss, neP_ii, neP_ss, isP_b, isNotP_b, inP_1, notInP_1, lenP_s, lenP_l, lenP_t, lenP_q, listP_s, listP_l, listP_t, tupleP_l, tupleP_t, ixP_l, ixP_t, ixP_q, ixP_s, atI_nat, atI_2, atI_3, atI_4, atI_0, atI_1, atI_last, setV_l, getV_l, ixN_nat, ixN_2, ixN_3, ixN_4, ixN_0, ixN_1, popP_n, appendP_1, extendP_l, slP_to, slP_from, slP_tto, slP_tfrom, slP_lto, slP_lfrom, MC.when, fl]
  have hb := B.bn (m + 1) t (Nat.le_refl _) (Nat.le_refl _)
  have loop : ∃ x4 x5 x6, forM (put 4 false) (bd2_word_tuples self) (rangeL 0 (t + 1 : Nat)) [some (false, S A), some (false, .int (m + 1 : Nat)), some (false, .int t), some (true, .lst []), none, none, none, none] = some (.nx, [some (false, S A), some (false, .int (m + 1 : Nat)), some (false, .int t), some (true, .lst ((tw A (m + 1) t).map TU)), x4, x5, x6, none]) := by
    obtain ⟨ρ', h1, x4, x5, x6, rfl⟩ := forM_inv (h := put 4 false) (f := bd2_word_tuples self) (fun i ρ => ∃ x4 x5 x6, ρ = [some (false, S A), some (false, .int (m + 1 : Nat)), some (false, .int t), some (true, .lst (((List.range i).flatMap fun f => (wl A f).flatMap fun w => (tw A m (t - f)).map (w :: ·)).map TU)), x4, x5, x6, none]) (rangeL 0 (t + 1 : Nat)) 0
      [some (false, S A), some (false, .int (m + 1 : Nat)), some (false, .int t), some (true, .lst []), none, none, none, none] ⟨none, none, none, by simp⟩ (by
      rintro i x _ hx ⟨x4, x5, x6, rfl⟩
      obtain ⟨hi, rfl⟩ := range_get hx
      rw [Nat.zero_add]
      have hs1 := hs i (by omega)
      have h0 : put 4 false (.int i) [some (false, S A), some (false, .int (m + 1 : Nat)), some (false, .int t), some (true, .lst (((List.range i).flatMap fun f => (wl A f).flatMap fun w => (tw A m (t - f)).map (w :: ·)).map TU)), x4, x5, x6, none] = some ((), [some (false, S A), some (false, .int (m + 1 : Nat)), some (false, .int t), some (true, .lst (((List.range i).flatMap fun f => (wl A f).flatMap fun w => (tw A m (t - f)).map (w :: ·)).map TU)), some (false, .int i), x5, x6, none]) := rfl
      have hsz : (((List.range i).flatMap fun f => (wl A f).flatMap fun w => (tw A m (t - f)).map (w :: ·)) ++ (wl A i).flatMap fun w => (tw A m (t - i)).map (w :: ·)).length ≤ 1000 := by
        refine Nat.le_trans (Nat.le_of_eq ?_) (Nat.le_trans (tw_pre A m (i := i + 1) (t := t) (by omega)) hb)
        rw [List.range_succ, List.flatMap_append]; simp
      obtain ⟨b5', x6', e⟩ := wt_fo (self := self) (m := (m + 1 : Nat)) (t := t) (b5 := true) (B.bn m (t - i) (by omega) (by omega)) (fun ws hws => by rw [tw_len_le hws]; have := B.bm; omega) hsz x6 (by have := B.bt; omega) (fun j hj => B.bl j (by omega))
      refine ⟨Wt A (m + 1 : Nat) t true ((List.range i).flatMap (fun f => (wl A f).flatMap fun w => (tw A m (t - f)).map (w :: ·)) ++ (wl A i).flatMap fun w => (tw A m (t - i)).map (w :: ·)) (some (false, .int i)) b5' (tw A m (t - i)) x6' none, .inl (bind_of h0 ?_), some (false, .int i), some (b5', .lst ((tw A m (t - i)).map TU)), x6', ?_⟩
      · unfold bd2_word_tuples
        refine seq_nx (ρ' := Wt A (m + 1 : Nat) t true ((List.range i).flatMap fun f => (wl A f).flatMap fun w => (tw A m (t - f)).map (w :: ·)) (some (false, .int i)) true (tw A m (t - i)) x6 none) ?_ e
        have e1 : ((m + 1 : Nat) : Int) - 1 = m := by omega
        have e2 : ((t : Nat) : Int) - (i : Nat) = (t - i : Nat) := by omega
        refine set_run (x := (true, .lst ((tw A m (t - i)).map TU))) (ρ' := [some (false, S A), some (false, .int (m + 1 : Nat)), some (false, .int t), some (true, .lst (((List.range i).flatMap fun f => (wl A f).flatMap fun w => (tw A m (t - f)).map (w :: ·)).map TU)), some (false, .int i), x5, x6, none]) ?_
        generalize ((List.range i).flatMap fun f => (wl A f).flatMap fun w => (tw A m (t - f)).map (w :: ·)).map TU = Z1
        generalize (tw A m (t - i)).map TU = Z2 at *
        generalize ((m + 1 : Nat) : Int) = M at *
        generalize ((t - i : Nat) : Int) = T at *
        generalize (m : Int) = M2 at *
        generalize (t : Int) = T2 at *
        generalize (i : Int) = T3 at *
        simp -implicitDefEqProofs [e1, e2, hs1, bind_run, pure_run, lift_run, ite_run, bad_run, fnOf, runF, argE, seqM, ifM, asT, bin2, bin2v, un1, unL, asF, setM, setIxM, augIxM, augM, retM, giveM, dropM, look, take, put, frz1, ownsAny, owns, store, change, mutM, onL, isB, truM, truP, MC.notM, MC.andM, MC.orM, chain, tupM, lstM, consM, outs, callM, valM, slotM, argSlots, frzS, resolve, ioSlots, setIo, itemsM, itemsOf, PV.flat, isi_int_int, isi_int_bool, isi_int_str, isi_int_tuple, isi_int_list, isi_str_int, isi_str_bool, isi_str_str, isi_str_tuple, isi_str_list, isi_tuple_int, isi_tuple_bool, isi_tuple_str, isi_tuple_tuple, isi_tuple_list, isi_list_int, isi_list_bool, isi_list_str, isi_list_tuple, isi_list_list, isi_NoneType_int, isi_NoneType_bool, isi_NoneType_str, isi_NoneType_tuple, isi_NoneType_list, isi_bool_int, isi_bool_bool, isi_bool_str, isi_bool_tuple, isi_bool_list, strM, eqP_bb, neP_bb, andV, orV, notV, slM, slMv, asInt, str_len, addP_ii, addP_ib, addP_ss, addP_ll, addP_tt, iaddP_ii, subP_ii, mulP_ii, mulP_si, fdivP_ii, modP_ii, negP_i, absP_i, intP_i, intP_b, ltP_ii, leP_ii, gtP_ii, geP_ii, ltP_ss, leP_ss, gtP_ss, geP_ss, eqP_ii, eqP_ss, neP_ii, neP_ss, isP_b, isNotP_b, inP_1, notInP_1, lenP_s, lenP_l, lenP_t, lenP_q, listP_s, listP_l, listP_t, tupleP_l, tupleP_t, ixP_l, ixP_t, ixP_q, ixP_s, atI_nat, atI_2, atI_3, atI_4, atI_0, atI_1, atI_last, setV_l, getV_l, ixN_nat, ixN_2, ixN_3, ixN_4, ixN_0, ixN_1, popP_n, appendP_1, extendP_l, slP_to, slP_from, slP_tto, slP_tfrom, slP_lto, slP_lfrom, MC.when, fl]
      · unfold Wt
        rw [List.range_succ, List.flatMap_append]; simp)
    rw [range_len, Nat.zero_add] at h1
    exact ⟨x4, x5, x6, h1⟩
  obtain ⟨x4, x5, x6, h⟩ := loop
  have k1 : setM 3 (lstM (pure [])) [some (false, S A), some (false, .int (m + 1 : Nat)), some (false, .int t), none, none, none, none, none] = some (.nx, [some (false, S A), some (false, .int (m + 1 : Nat)), some (false, .int t), some (true, .lst []), none, none, none, none]) := by
    simp -implicitDefEqProofs [f0, bind_run, pure_run, lift_run, ite_run, bad_run, fnOf, runF, argE, seqM, ifM, asT, bin2, bin2v, un1, unL, asF, setM, setIxM, augIxM, augM, retM, giveM, dropM, look, take, put, frz1, ownsAny, owns, store, change, mutM, onL, isB, truM, truP, MC.notM, MC.andM, MC.orM, chain, tupM, lstM, consM, outs, callM, valM, slotM, argSlots, frzS, resolve, ioSlots, setIo, itemsM, itemsOf, PV.flat, isi_int_int, isi_int_bool, isi_int_str, isi_int_tuple, isi_int_list, isi_str_int, isi_str_bool, isi_str_str, isi_str_tuple, isi_str_list, isi_tuple_int, isi_tuple_bool, isi_tuple_str, isi_tuple_tuple, isi_tuple_list, isi_list_int, isi_list_bool, isi_list_str, isi_list_tuple, isi_list_list, isi_NoneType_int, isi_NoneType_bool, isi_NoneType_str, isi_NoneType_tuple, isi_NoneType_list, isi_bool_int, isi_bool_bool, isi_bool_str, isi_bool_tuple, isi_bool_list, strM, eqP_bb, neP_bb, andV, orV, notV, slM, slMv, asInt, str_len, addP_ii, addP_ib, addP_ss, addP_ll, addP_tt, iaddP_ii, subP_ii, mulP_ii, mulP_si, fdivP_ii, modP_ii, negP_i, absP_i, intP_i, intP_b, ltP_ii, leP_ii, gtP_ii, geP_ii, ltP_ss, leP_ss, gtP_ss, geP_ss, eqP_ii, eqP_ss, neP_ii, neP_ss, isP_b, isNotP_b, inP_1, notInP_1, lenP_s, lenP_l, lenP_t, lenP_q, listP_s, listP_l, listP_t, tupleP_l, tupleP_t, ixP_l, ixP_t, ixP_q, ixP_s, atI_nat, atI_2, atI_3, atI_4, atI_0, atI_1, atI_last, setV_l, getV_l, ixN_nat, ixN_2, ixN_3, ixN_4, ixN_0, ixN_1, popP_n, appendP_1, extendP_l, slP_to, slP_from, slP_tto, slP_tfrom, slP_lto, slP_lfrom, MC.when, fl]
  have k2 : fo2_word_tuples self [some (false, S A), some (false, .int (m + 1 : Nat)), some (false, .int t), some (true, .lst []), none, none, none, none] = some (.nx, [some (false, S A), some (false, .int (m + 1 : Nat)), some (false, .int t), some (true, .lst ((tw A (m + 1) t).map TU)), x4, x5, x6, none]) := by
    unfold fo2_word_tuples
    refine for_range (n := t + 1) (ρ' := [some (false, S A), some (false, .int (m + 1 : Nat)), some (false, .int t), some (true, .lst []), none, none, none, none]) ?_ (by have := B.bt; omega) h
    have e1 : ((t : Nat) : Int) + 1 = (t + 1 : Nat) := by omega
    generalize ((t + 1 : Nat) : Int) = M at *
    generalize (t : Int) = M2 at *
    simp -implicitDefEqProofs [e1, bind_run, pure_run, lift_run, ite_run, bad_run, fnOf, runF, argE, seqM, ifM, asT, bin2, bin2v, un1, unL, asF, setM, setIxM, augIxM, augM, retM, giveM, dropM, look, take, put, frz1, ownsAny, owns, store, change, mutM, onL, isB, truM, truP, MC.notM, MC.andM, MC.orM, chain, tupM, lstM, consM, outs, callM, valM, slotM, argSlots, frzS, resolve, ioSlots, setIo, itemsM, itemsOf, PV.flat, isi_int_int, isi_int_bool, isi_int_str, isi_int_tuple, isi_int_list, isi_str_int, isi_str_bool, isi_str_str, isi_str_tuple, isi_str_list, isi_tuple_int, isi_tuple_bool, isi_tuple_str, isi_tuple_tuple, isi_tuple_list, isi_list_int, isi_list_bool, isi_list_str, isi_list_tuple, isi_list_list, isi_NoneType_int, isi_NoneType_bool, isi_NoneType_str, isi_NoneType_tuple, isi_NoneType_list, isi_bool_int, isi_bool_bool, isi_bool_str, isi_bool_tuple, isi_bool_list, strM, eqP_bb, neP_bb, andV, orV, notV, slM, slMv, asInt, str_len, addP_ii, addP_ib, addP_ss, addP_ll, addP_tt, iaddP_ii, subP_ii, mulP_ii, mulP_si, fdivP_ii, modP_ii, negP_i, absP_i, intP_i, intP_b, ltP_ii, leP_ii, gtP_ii, geP_ii, ltP_ss, leP_ss, gtP_ss, geP_ss, eqP_ii, eqP_ss, neP_ii, neP_ss, isP_b, isNotP_b, inP_1, notInP_1, lenP_s, lenP_l, lenP_t, lenP_q, listP_s, listP_l, listP_t, tupleP_l, tupleP_t, ixP_l, ixP_t, ixP_q, ixP_s, atI_nat, atI_2, atI_3, atI_4, atI_0, atI_1, atI_last, setV_l, getV_l, ixN_nat, ixN_2, ixN_3, ixN_4, ixN_0, ixN_1, popP_n, appendP_1, extendP_l, slP_to, slP_from, slP_tto, slP_tfrom, slP_lto, slP_lfrom, MC.when, fl]
  exact fn_run rfl rfl (seq_nx c0 (seq_nx k1 (seq_nx k2 rfl))) rfl
theorem f0' : fits 0 = true := fits_of (by decide)
theorem wt_zero {A : List Nat} {t : Nat} {self : Fn} : fnOf 3 8 [] (sem_word_tuples self) [S A, .int (0 : Nat), .int t] = some ((true, .lst ((tw A 0 t).map TU)), []) := by
  unfold tw
  have e : (((0 : Nat) : Int) = 0) = True := by simp
  by_cases h : t = 0
  · subst h
    rw [if_pos rfl]
    simp -implicitDefEqProofs [sem_word_tuples, f0', f1', bind_run, pure_run, lift_run, ite_run, bad_run, fnOf, runF, argE, seqM, ifM, asT, bin2, bin2v, un1, unL, asF, setM, setIxM, augIxM, augM, retM, giveM, dropM, look, take, put, frz1, ownsAny, owns, store, change, mutM, onL, isB, truM, truP, MC.notM, MC.andM, MC.orM, chain, tupM, lstM, consM, outs, callM, valM, slotM, argSlots, frzS, resolve, ioSlots, setIo, itemsM, itemsOf, PV.flat, isi_int_int, isi_int_bool, isi_int_str, isi_int_tuple, isi_int_list, isi_str_int, isi_str_bool, isi_str_str, isi_str_tuple, isi_str_list, isi_tuple_int, isi_tuple_bool, isi_tuple_str, isi_tuple_tuple, isi_tuple_list, isi_list_int, isi_list_bool, isi_list_str, isi_list_tuple, isi_list_list, isi_NoneType_int, isi_NoneType_bool, isi_NoneType_str, isi_NoneType_tuple, isi_NoneType_list, isi_bool_int, isi_bool_bool, isi_bool_str, isi_bool_tuple, isi_bool_list, strM, eqP_bb, neP_bb, andV, orV, notV, slM, slMv, asInt, str_len, addP_ii, addP_ib, addP_ss, addP_ll, addP_tt, iaddP_ii, subP_ii, mulP_ii, mulP_si, fdivP_ii, modP_ii, negP_i, absP_i, intP_i, intP_b, ltP_ii, leP_ii, gtP_ii, geP_ii, ltP_ss, leP_ss, gtP_ss, geP_ss, eqP_ii, eqP_ss, neP_ii, neP_ss, isP_b, isNotP_b, inP_1, notInP_1, lenP_s, lenP_l, lenP_t, lenP_q, listP_s, listP_l, listP_t, tupleP_l, tupleP_t, ixP_l, ixP_t, ixP_q, ixP_s, atI_nat, atI_2, atI_3, atI_4, atI_0, atI_1, atI_last, setV_l, getV_l, ixN_nat, ixN_2, ixN_3, ixN_4, ixN_0, ixN_1, popP_n, appendP_1, extendP_l, slP_to, slP_from, slP_tto, slP_tfrom, slP_lto, slP_lfrom, MC.when, fl, e]
  · rw [if_neg h]
    have : ¬ ((t : Nat) : Int) = 0 := by omega
    generalize ((t : Nat) : Int) = T at *
    simp -implicitDefEqProofs [sem_word_tuples, f0', f1', this, bind_run, pure_run, lift_run, ite_run, bad_run, fnOf, runF, argE, seqM, ifM, asT, bin2, bin2v, un1, unL, asF, setM, setIxM, augIxM, augM, retM, giveM, dropM, look, take, put, frz1, ownsAny, owns, store, change, mutM, onL, isB, truM, truP, MC.notM, MC.andM, MC.orM, chain, tupM, lstM, consM, outs, callM, valM, slotM, argSlots, frzS, resolve, ioSlots, setIo, itemsM, itemsOf, PV.flat, isi_int_int, isi_int_bool, isi_int_str, isi_int_tuple, isi_int_list, isi_str_int, isi_str_bool, isi_str_str, isi_str_tuple, isi_str_list, isi_tuple_int, isi_tuple_bool, isi_tuple_str, isi_tuple_tuple, isi_tuple_list, isi_list_int, isi_list_bool, isi_list_str, isi_list_tuple, isi_list_list, isi_NoneType_int, isi_NoneType_bool, isi_NoneType_str, isi_NoneType_tuple, isi_NoneType_list, isi_bool_int, isi_bool_bool, isi_bool_str, isi_bool_tuple, isi_bool_list, strM, eqP_bb, neP_bb, andV, orV, notV, slM, slMv, asInt, str_len, addP_ii, addP_ib, addP_ss, addP_ll, addP_tt, iaddP_ii, subP_ii, mulP_ii, mulP_si, fdivP_ii, modP_ii, negP_i, absP_i, intP_i, intP_b, ltP_ii, leP_ii, gtP_ii, geP_ii, ltP_ss, leP_ss, gtP_ss, geP_ss, eqP_ii, eqP_ss, neP_ii, neP_ss, isP_b, isNotP_b, inP_1, notInP_1, lenP_s, lenP_l, lenP_t, lenP_q, listP_s, listP_l, listP_t, tupleP_l, tupleP_t, ixP_l, ixP_t, ixP_q, ixP_s, atI_nat, atI_2, atI_3, atI_4, atI_0, atI_1, atI_last, setV_l, getV_l, ixN_nat, ixN_2, ixN_3, ixN_4, ixN_0, ixN_1, popP_n, appendP_1, extendP_l, slP_to, slP_from, slP_tto, slP_tfrom, slP_lto, slP_lfrom, MC.when, fl, e]
theorem wt_ok {A : List Nat} : ∀ {m t k : Nat}, m < k → Bt A m t → Fr_word_tuples k [S A, .int m, .int t] = some ((true, .lst ((tw A m t).map TU)), [])
  | 0, t, k + 1, _, _ => wt_zero
  | m + 1, t, k + 1, h, B => wt_sem B fun f hf => by
    exact wt_ok (by omega) (B.le (Nat.le_succ _) (Nat.sub_le _ _))
end MC.Law
set_option Elab.async false
set_option linter.all false
set_option maxRecDepth 100000
set_option maxHeartbeats 4000000
/-! cuts -/
namespace MC.Law
open PySem
abbrev TN (l : List Nat) : PV := .tup (l.map fun n : Nat => .int n)
theorem slP_ft {a : List Nat} {p q : Nat} (h : fits a.length = true) : slP (.str ⟨⟨a⟩⟩) (some (p : Int)) (some (q : Int)) = some (false, .str ⟨⟨(a.drop p).take (q - p)⟩⟩) := by
  show (if fits a.length then fl (.str (L2.cutS ⟨⟨a⟩⟩ (some (p : Int)) (some (q : Int)))) else none) = _
  rw [if_pos h]
  have : L2.cutS ⟨⟨a⟩⟩ (some (p : Int)) (some (q : Int)) = ⟨⟨(a.drop p).take (q - p)⟩⟩ := by
    unfold L2.cutS
    rw [HT.sIx_nat, HT.sIx_nat]
    show (⟨⟨(a.drop (min p a.length)).take (min q a.length - min p a.length)⟩⟩ : Str) = _
    by_cases hp : p ≤ a.length
    · rw [Nat.min_eq_left hp]
      by_cases hq : q ≤ a.length
      · rw [Nat.min_eq_left hq]
      · rw [Nat.min_eq_right (show a.length ≤ q by omega), List.take_of_length_le (by rw [List.length_drop]; exact Nat.le_refl _), List.take_of_length_le (by rw [List.length_drop]; omega)]
    · rw [Nat.min_eq_right (show a.length ≤ p by omega), List.drop_length, List.drop_eq_nil_of_le (show a.length ≤ p by omega), List.take_nil, List.take_nil]
  rw [this]; rfl
/-! law_cut -/
def cp (w : Wd) : Nat → List Nat → List Wd
  | _, [] => []
  | low, p :: row => (w.drop low).take (p - low) :: cp w p row
theorem cutw_cp (w : Wd) : ∀ (row : List Nat) (low : Nat), cutw w low row = cp w low row ++ [w.drop (row.getLast?.getD low)]
  | [], low => rfl
  | [p], low => rfl
  | p :: q :: row, low => by
    show _ :: cutw w p (q :: row) = _ :: (cp w p (q :: row) ++ _)
    rw [cutw_cp w (q :: row) p, List.getLast?_cons_cons]
    rw [List.getLast?_eq_some_getLast (List.cons_ne_nil q row)]; rfl
theorem cp_snoc (w : Wd) : ∀ (row : List Nat) (low p : Nat), cp w low (row ++ [p]) = cp w low row ++ [(w.drop (row.getLast?.getD low)).take (p - row.getLast?.getD low)]
  | [], low, p => rfl
  | [q], low, p => rfl
  | r :: q :: row, low, p => by
    show _ :: cp w r ((q :: row) ++ [p]) = _ :: (cp w r (q :: row) ++ _)
    rw [cp_snoc w (q :: row) r p, List.getLast?_cons_cons]
    rw [List.getLast?_eq_some_getLast (List.cons_ne_nil q row)]; rfl
theorem cp_len (w : Wd) : ∀ (row : List Nat) (low : Nat), (cp w low row).length = row.length
  | [], _ => rfl
  | p :: row, low => congrArg (· + 1) (cp_len w row p)
theorem lowR_snoc (row : List Nat) (p : Nat) : lowR (row ++ [p]) = p := by unfold lowR; rw [List.getLast?_concat]; rfl
theorem addTS (ws : List Wd) (w : Wd) (h : ws.length ≤ 1000) : addP (TU ws) (.tup [S w]) = some (false, TU (ws ++ [w])) := by
  have := addP_tt (xs := ws.map S) (ys := [S w]) (fits_of (by rw [List.length_map]; simp only [List.length_cons, List.length_nil]; omega))
  rw [show TU (ws ++ [w]) = .tup (ws.map S ++ [S w]) by unfold TU; rw [List.map_append]; rfl]
  exact this
theorem cut_bd {w : Wd} {r : PV} {ps : List Wd} {low p : Nat} (hw : w.length ≤ 1000) (hp : ps.length ≤ 1000) :
    bd1__law_cut [some (false, S w), some (false, r), some (false, TU ps), some (false, .int low), some (false, .int p)] = some (.nx, [some (false, S w), some (false, r), some (false, TU (ps ++ [(w.drop low).take (p - low)])), some (false, .int p), some (false, .int p)]) := by
  have h1 : slP (S w) (some (low : Int)) (some (p : Int)) = some (false, S ((w.drop low).take (p - low))) := slP_ft (fits_of (by omega))
  have h2 := addTS ps ((w.drop low).take (p - low)) hp
  generalize (w.drop low).take (p - low) = Z at *
  generalize TU (ps ++ [Z]) = Z2 at *
  generalize TU ps = Z3 at *
  generalize (low : Int) = L at *
  generalize (p : Int) = P at *
  simp -implicitDefEqProofs [bd1__law_cut, h1, h2, f1', bind_run, pure_run, lift_run, ite_run, bad_run, fnOf, runF, argE, seqM, ifM, asT, bin2, bin2v, un1, unL, asF, setM, setIxM, augIxM, augM, retM, giveM, dropM, look, take, put, frz1, ownsAny, owns, store, change, mutM, onL, isB, truM, truP, MC.notM, MC.andM, MC.orM, chain, tupM, lstM, consM, outs, callM, valM, slotM, argSlots, frzS, resolve, ioSlots, setIo, itemsM, itemsOf, PV.flat, isi_int_int, isi_int_bool, isi_int_str, isi_int_tuple, isi_int_list, isi_str_int, isi_str_bool, isi_str_str, isi_str_tuple, isi_str_list, isi_tuple_int, isi_tuple_bool, isi_tuple_str, isi_tuple_tuple, isi_tuple_list, isi_list_int, isi_list_bool, isi_list_str, isi_list_tuple, isi_list_list, isi_NoneType_int, isi_NoneType_bool, isi_NoneType_str, isi_NoneType_tuple, isi_NoneType_list, isi_bool_int, isi_bool_bool, isi_bool_str, isi_bool_tuple, isi_bool_list, strM, eqP_bb, neP_bb, andV, orV, notV, slM, slMv, asInt, str_len, addP_ii, addP_ib, addP_ss, addP_ll, addP_tt, iaddP_ii, subP_ii, mulP_ii, mulP_si, fdivP_ii, modP_ii, negP_i, absP_i, intP_i, intP_b, ltP_ii, leP_ii, gtP_ii, geP_ii, ltP_ss, leP_ss, gtP_ss, geP_ss, eqP_ii, eqP_ss, neP_ii, neP_ss, isP_b, isNotP_b, inP_1, notInP_1, lenP_s, lenP_l, lenP_t, lenP_q, listP_s, listP_l, listP_t, tupleP_l, tupleP_t, ixP_l, ixP_t, ixP_q, ixP_s, atI_nat, atI_2, atI_3, atI_4, atI_0, atI_1, atI_last, setV_l, getV_l, ixN_nat, ixN_2, ixN_3, ixN_4, ixN_0, ixN_1, popP_n, appendP_1, extendP_l, slP_to, slP_from, slP_tto, slP_tfrom, slP_lto, slP_lfrom, MC.when, fl]
theorem cut_ok {w : Wd} {row : List Nat} (hw : w.length ≤ 1000) (hr : row.length ≤ 900) : F__law_cut [S w, TN row] = some ((false, TU (cutw w 0 row)), []) := by
  obtain ⟨ρ', h1, x4, rfl⟩ := forM_pre (h := put 4 false) (f := bd1__law_cut) (fun n : Nat => .int n) (fun pre ρ => ∃ x4, ρ = [some (false, S w), some (false, TN row), some (false, TU (cp w 0 pre)), some (false, .int (lowR pre)), x4]) row (ρ := [some (false, S w), some (false, TN row), some (false, TU []), some (false, .int (0 : Nat)), none]) ⟨none, rfl⟩ (by
    rintro pre p post _ e ⟨x, rfl⟩
    refine ⟨_, bind_of (ρ' := [some (false, S w), some (false, TN row), some (false, TU (cp w 0 pre)), some (false, .int (lowR pre)), some (false, .int p)]) rfl (cut_bd hw ?_), some (false, .int p), ?_⟩
    · rw [cp_len]; rw [e, List.length_append] at hr; omega
    · rw [cp_snoc, lowR_snoc]; rfl)
  have k1 : setM 2 (tupM (pure [])) [some (false, S w), some (false, TN row), none, none, none] = some (.nx, [some (false, S w), some (false, TN row), some (false, TU []), none, none]) := by
    simp -implicitDefEqProofs [f0', bind_run, pure_run, lift_run, ite_run, bad_run, fnOf, runF, argE, seqM, ifM, asT, bin2, bin2v, un1, unL, asF, setM, setIxM, augIxM, augM, retM, giveM, dropM, look, take, put, frz1, ownsAny, owns, store, change, mutM, onL, isB, truM, truP, MC.notM, MC.andM, MC.orM, chain, tupM, lstM, consM, outs, callM, valM, slotM, argSlots, frzS, resolve, ioSlots, setIo, itemsM, itemsOf, PV.flat, isi_int_int, isi_int_bool, isi_int_str, isi_int_tuple, isi_int_list, isi_str_int, isi_str_bool, isi_str_str, isi_str_tuple, isi_str_list, isi_tuple_int, isi_tuple_bool, isi_tuple_str, isi_tuple_tuple, isi_tuple_list, isi_list_int, isi_list_bool, isi_list_str, isi_list_tuple, isi_list_list, isi_NoneType_int, isi_NoneType_bool, isi_NoneType_str, isi_NoneType_tuple, isi_NoneType_list, isi_bool_int, isi_bool_bool, isi_bool_str, isi_bool_tuple, isi_bool_list, strM, eqP_bb, neP_bb, andV, orV, notV, slM, slMv, asInt, str_len, addP_ii, addP_ib, addP_ss, addP_ll, addP_tt, iaddP_ii, subP_ii, mulP_ii, mulP_si, fdivP_ii, modP_ii, negP_i, absP_i, intP_i, intP_b, ltP_ii, leP_ii, gtP_ii, geP_ii, ltP_ss, leP_ss, gtP_ss, geP_ss, eqP_ii, eqP_ss, neP_ii, neP_ss, isP_b, isNotP_b, inP_1, notInP_1, lenP_s, lenP_l, lenP_t, lenP_q, listP_s, listP_l, listP_t, tupleP_l, tupleP_t, ixP_l, ixP_t, ixP_q, ixP_s, atI_nat, atI_2, atI_3, atI_4, atI_0, atI_1, atI_last, setV_l, getV_l, ixN_nat, ixN_2, ixN_3, ixN_4, ixN_0, ixN_1, popP_n, appendP_1, extendP_l, slP_to, slP_from, slP_tto, slP_tfrom, slP_lto, slP_lfrom, MC.when, fl]
  have k2 : fo1__law_cut [some (false, S w), some (false, TN row), some (false, TU []), some (false, .int (0 : Nat)), none] = some (.nx, [some (false, S w), some (false, TN row), some (false, TU (cp w 0 row)), some (false, .int (lowR row)), x4]) := by
    unfold fo1__law_cut
    refine bind_of (a := row.map fun n : Nat => .int n) (ρ' := [some (false, S w), some (false, TN row), some (false, TU []), some (false, .int (0 : Nat)), none]) ?_ h1
    simp -implicitDefEqProofs [bind_run, pure_run, lift_run, ite_run, bad_run, fnOf, runF, argE, seqM, ifM, asT, bin2, bin2v, un1, unL, asF, setM, setIxM, augIxM, augM, retM, giveM, dropM, look, take, put, frz1, ownsAny, owns, store, change, mutM, onL, isB, truM, truP, MC.notM, MC.andM, MC.orM, chain, tupM, lstM, consM, outs, callM, valM, slotM, argSlots, frzS, resolve, ioSlots, setIo, itemsM, itemsOf, PV.flat, isi_int_int, isi_int_bool, isi_int_str, isi_int_tuple, isi_int_list, isi_str_int, isi_str_bool, isi_str_str, isi_str_tuple, isi_str_list, isi_tuple_int, isi_tuple_bool, isi_tuple_str, isi_tuple_tuple, isi_tuple_list, isi_list_int, isi_list_bool, isi_list_str, isi_list_tuple, isi_list_list, isi_NoneType_int, isi_NoneType_bool, isi_NoneType_str, isi_NoneType_tuple, isi_NoneType_list, isi_bool_int, isi_bool_bool, isi_bool_str, isi_bool_tuple, isi_bool_list, strM, eqP_bb, neP_bb, andV, orV, notV, slM, slMv, asInt, str_len, addP_ii, addP_ib, addP_ss, addP_ll, addP_tt, iaddP_ii, subP_ii, mulP_ii, mulP_si, fdivP_ii, modP_ii, negP_i, absP_i, intP_i, intP_b, ltP_ii, leP_ii, gtP_ii, geP_ii, ltP_ss, leP_ss, gtP_ss, geP_ss, eqP_ii, eqP_ss, neP_ii, neP_ss, isP_b, isNotP_b, inP_1, notInP_1, lenP_s, lenP_l, lenP_t, lenP_q, listP_s, listP_l, listP_t, tupleP_l, tupleP_t, ixP_l, ixP_t, ixP_q, ixP_s, atI_nat, atI_2, atI_3, atI_4, atI_0, atI_1, atI_last, setV_l, getV_l, ixN_nat, ixN_2, ixN_3, ixN_4, ixN_0, ixN_1, popP_n, appendP_1, extendP_l, slP_to, slP_from, slP_tto, slP_tfrom, slP_lto, slP_lfrom, MC.when, fl]
  have k3 : retM (bin2v 2 (asF (tupM (consM (asF (slMv 0 (asInt (look 3)) (pure none) slP)) (pure [])))) addP) [some (false, S w), some (false, TN row), some (false, TU (cp w 0 row)), some (false, .int (lowR row)), x4] = some (.rt (false, TU (cutw w 0 row)), [some (false, S w), some (false, TN row), some (false, TU (cp w 0 row)), some (false, .int (lowR row)), x4]) := by
    have g1 : slP (S w) (some (lowR row : Int)) none = some (false, S (w.drop (lowR row))) := slP_from (fits_of (by omega))
    have h2 := addTS (cp w 0 row) (w.drop (lowR row)) (by rw [cp_len]; omega)
    rw [cutw_cp]
    show _ = some (Fl.rt (false, TU (cp w 0 row ++ [w.drop (lowR row)])), _)
    generalize w.drop (lowR row) = Z at *
    generalize TU (cp w 0 row ++ [Z]) = Z2 at *
    generalize TU (cp w 0 row) = Z3 at *
    generalize (lowR row : Int) = L at *
    simp -implicitDefEqProofs [g1, h2, f1', bind_run, pure_run, lift_run, ite_run, bad_run, fnOf, runF, argE, seqM, ifM, asT, bin2, bin2v, un1, unL, asF, setM, setIxM, augIxM, augM, retM, giveM, dropM, look, take, put, frz1, ownsAny, owns, store, change, mutM, onL, isB, truM, truP, MC.notM, MC.andM, MC.orM, chain, tupM, lstM, consM, outs, callM, valM, slotM, argSlots, frzS, resolve, ioSlots, setIo, itemsM, itemsOf, PV.flat, isi_int_int, isi_int_bool, isi_int_str, isi_int_tuple, isi_int_list, isi_str_int, isi_str_bool, isi_str_str, isi_str_tuple, isi_str_list, isi_tuple_int, isi_tuple_bool, isi_tuple_str, isi_tuple_tuple, isi_tuple_list, isi_list_int, isi_list_bool, isi_list_str, isi_list_tuple, isi_list_list, isi_NoneType_int, isi_NoneType_bool, isi_NoneType_str, isi_NoneType_tuple, isi_NoneType_list, isi_bool_int, isi_bool_bool, isi_bool_str, isi_bool_tuple, isi_bool_list, strM, eqP_bb, neP_bb, andV, orV, notV, slM, slMv, asInt, str_len, addP_ii, addP_ib, addP_ss, addP_ll, addP_tt, iaddP_ii, subP_ii, mulP_ii, mulP_si, fdivP_ii, modP_ii, negP_i, absP_i, intP_i, intP_b, ltP_ii, leP_ii, gtP_ii, geP_ii, ltP_ss, leP_ss, gtP_ss, geP_ss, eqP_ii, eqP_ss, neP_ii, neP_ss, isP_b, isNotP_b, inP_1, notInP_1, lenP_s, lenP_l, lenP_t, lenP_q, listP_s, listP_l, listP_t, tupleP_l, tupleP_t, ixP_l, ixP_t, ixP_q, ixP_s, atI_nat, atI_2, atI_3, atI_4, atI_0, atI_1, atI_last, setV_l, getV_l, ixN_nat, ixN_2, ixN_3, ixN_4, ixN_0, ixN_1, popP_n, appendP_1, extendP_l, slP_to, slP_from, slP_tto, slP_tfrom, slP_lto, slP_lfrom, MC.when, fl]
  exact fn_run rfl rfl (seq_nx k1 (seq_nx (ρ' := [some (false, S w), some (false, TN row), some (false, TU []), some (false, .int (0 : Nat)), none]) rfl (seq_nx k2 k3))) rfl
/-! law_cuts -/
theorem addTN (row : List Nat) (p : Nat) (h : row.length ≤ 1000) : addP (TN row) (.tup [.int p]) = some (false, TN (row ++ [p])) := by
  have := addP_tt (xs := row.map fun n : Nat => PV.int n) (ys := [.int p]) (fits_of (by rw [List.length_map]; simp only [List.length_cons, List.length_nil]; omega))
  rw [show TN (row ++ [p]) = .tup ((row.map fun n : Nat => PV.int n) ++ [.int p]) by unfold TN; rw [List.map_append]; rfl]
  exact this
def Cs (s m : Int) (x2 x3 : Option (Bool × PV)) (acc : List (List Nat)) (row : List Nat) (x6 x7 : Option (Bool × PV)) : Env := [some (false, .int s), some (false, .int m), x2, x3, some (true, .lst (acc.map TN)), some (false, TN row), x6, x7]
theorem cuts_bd1 {s m : Int} {x2 x3 : Option (Bool × PV)} {acc : List (List Nat)} {row : List Nat} {x6 : Option (Bool × PV)} {p : Nat} (hr : row.length ≤ 1000) (ha : acc.length ≤ 2000) :
    bd1__law_cuts (Cs s m x2 x3 acc row x6 (some (false, .int p))) = some (.nx, Cs s m x2 x3 (acc ++ [row ++ [p]]) row x6 (some (false, .int p))) := by
  have h1 := addTN row p hr
  have h2 := appendP_1 (xs := acc.map TN) (x := TN (row ++ [p])) (by rw [List.length_map]; omega)
  unfold Cs
  rw [show (acc ++ [row ++ [p]]).map TN = acc.map TN ++ [TN (row ++ [p])] by rw [List.map_append]; rfl]
  generalize acc.map TN = Z1 at *
  generalize TN (row ++ [p]) = Z2 at *
  generalize TN row = Z3 at *
  generalize (p : Int) = P at *
  simp -implicitDefEqProofs [bd1__law_cuts, h1, h2, f1', bind_run, pure_run, lift_run, ite_run, bad_run, fnOf, runF, argE, seqM, ifM, asT, bin2, bin2v, un1, unL, asF, setM, setIxM, augIxM, augM, retM, giveM, dropM, look, take, put, frz1, ownsAny, owns, store, change, mutM, onL, isB, truM, truP, MC.notM, MC.andM, MC.orM, chain, tupM, lstM, consM, outs, callM, valM, slotM, argSlots, frzS, resolve, ioSlots, setIo, itemsM, itemsOf, PV.flat, isi_int_int, isi_int_bool, isi_int_str, isi_int_tuple, isi_int_list, isi_str_int, isi_str_bool, isi_str_str, isi_str_tuple, isi_str_list, isi_tuple_int, isi_tuple_bool, isi_tuple_str, isi_tuple_tuple, isi_tuple_list, isi_list_int, isi_list_bool, isi_list_str, isi_list_tuple, isi_list_list, isi_NoneType_int, isi_NoneType_bool, isi_NoneType_str, isi_NoneType_tuple, isi_NoneType_list, isi_bool_int, isi_bool_bool, isi_bool_str, isi_bool_tuple, isi_bool_list, strM, eqP_bb, neP_bb, andV, orV, notV, slM, slMv, asInt, str_len, addP_ii, addP_ib, addP_ss, addP_ll, addP_tt, iaddP_ii, subP_ii, mulP_ii, mulP_si, fdivP_ii, modP_ii, negP_i, absP_i, intP_i, intP_b, ltP_ii, leP_ii, gtP_ii, geP_ii, ltP_ss, leP_ss, gtP_ss, geP_ss, eqP_ii, eqP_ss, neP_ii, neP_ss, isP_b, isNotP_b, inP_1, notInP_1, lenP_s, lenP_l, lenP_t, lenP_q, listP_s, listP_l, listP_t, tupleP_l, tupleP_t, ixP_l, ixP_t, ixP_q, ixP_s, atI_nat, atI_2, atI_3, atI_4, atI_0, atI_1, atI_last, setV_l, getV_l, ixN_nat, ixN_2, ixN_3, ixN_4, ixN_0, ixN_1, popP_n, appendP_1, extendP_l, slP_to, slP_from, slP_tto, slP_tfrom, slP_lto, slP_lfrom, MC.when, fl]
theorem cuts_bd2 {s : Nat} {m : Int} {x2 x3 : Option (Bool × PV)} {acc : List (List Nat)} {row : List Nat} {x6 x7 : Option (Bool × PV)} (hr : row.length ≤ 1000) (hs : s ≤ 900) (ha : acc.length ≤ 1000) :
    ∃ x6' x7', bd2__law_cuts (Cs s m x2 x3 acc row x6 x7) = some (.nx, Cs s m x2 x3 (acc ++ (List.range (s + 1 - lowR row)).map fun i => row ++ [lowR row + i]) row x6' x7') := by
  have k1 : setM 6 (ifM (asT (bin2 (asF (un1 (look 5) lenP)) (pure (.int 0)) gtP)) (bin2v 5 (asF (un1 (pure (.int 1)) negP)) ixP) ((pure (.int 0)) >>= fun v => pure (false, v))) (Cs s m x2 x3 acc row x6 x7) = some (.nx, Cs s m x2 x3 acc row (some (false, .int (lowR row))) x7) := by
    unfold Cs
    have hl : ∀ {k : Int}, ((row.map fun n : Nat => PV.int n).length : Int) = k → lenP (TN row) = some (false, .int k) := fun e => by rw [← e]; exact lenP_t
    by_cases hc : row = []
    · subst hc
      rw [show lowR [] = 0 from rfl]
      simp -implicitDefEqProofs [bind_run, pure_run, lift_run, ite_run, bad_run, fnOf, runF, argE, seqM, ifM, asT, bin2, bin2v, un1, unL, asF, setM, setIxM, augIxM, augM, retM, giveM, dropM, look, take, put, frz1, ownsAny, owns, store, change, mutM, onL, isB, truM, truP, MC.notM, MC.andM, MC.orM, chain, tupM, lstM, consM, outs, callM, valM, slotM, argSlots, frzS, resolve, ioSlots, setIo, itemsM, itemsOf, PV.flat, isi_int_int, isi_int_bool, isi_int_str, isi_int_tuple, isi_int_list, isi_str_int, isi_str_bool, isi_str_str, isi_str_tuple, isi_str_list, isi_tuple_int, isi_tuple_bool, isi_tuple_str, isi_tuple_tuple, isi_tuple_list, isi_list_int, isi_list_bool, isi_list_str, isi_list_tuple, isi_list_list, isi_NoneType_int, isi_NoneType_bool, isi_NoneType_str, isi_NoneType_tuple, isi_NoneType_list, isi_bool_int, isi_bool_bool, isi_bool_str, isi_bool_tuple, isi_bool_list, strM, eqP_bb, neP_bb, andV, orV, notV, slM, slMv, asInt, str_len, addP_ii, addP_ib, addP_ss, addP_ll, addP_tt, iaddP_ii, subP_ii, mulP_ii, mulP_si, fdivP_ii, modP_ii, negP_i, absP_i, intP_i, intP_b, ltP_ii, leP_ii, gtP_ii, geP_ii, ltP_ss, leP_ss, gtP_ss, geP_ss, eqP_ii, eqP_ss, neP_ii, neP_ss, isP_b, isNotP_b, inP_1, notInP_1, lenP_s, lenP_l, lenP_t, lenP_q, listP_s, listP_l, listP_t, tupleP_l, tupleP_t, ixP_l, ixP_t, ixP_q, ixP_s, atI_nat, atI_2, atI_3, atI_4, atI_0, atI_1, atI_last, setV_l, getV_l, ixN_nat, ixN_2, ixN_3, ixN_4, ixN_0, ixN_1, popP_n, appendP_1, extendP_l, slP_to, slP_from, slP_tto, slP_tfrom, slP_lto, slP_lfrom, MC.when, fl]
    · have hp : (0 : Int) < row.length := by have := List.length_pos_iff.mpr hc; omega
      have e : ixP (TN row) (.int (-1)) = some (false, .int (lowR row)) := by
        rw [ixP_t, atI_last, List.getLast?_map, List.getLast?_eq_some_getLast hc]
        unfold lowR
        rw [List.getLast?_eq_some_getLast hc]; rfl
      have hl' := hl (k := row.length) (by rw [List.length_map])
      generalize TN row = Z at *
      generalize (row.length : Int) = K at *
      generalize (lowR row : Int) = L at *
      generalize (acc.map TN) = Z2
      simp -implicitDefEqProofs [hl', hp, e, bind_run, pure_run, lift_run, ite_run, bad_run, fnOf, runF, argE, seqM, ifM, asT, bin2, bin2v, un1, unL, asF, setM, setIxM, augIxM, augM, retM, giveM, dropM, look, take, put, frz1, ownsAny, owns, store, change, mutM, onL, isB, truM, truP, MC.notM, MC.andM, MC.orM, chain, tupM, lstM, consM, outs, callM, valM, slotM, argSlots, frzS, resolve, ioSlots, setIo, itemsM, itemsOf, PV.flat, isi_int_int, isi_int_bool, isi_int_str, isi_int_tuple, isi_int_list, isi_str_int, isi_str_bool, isi_str_str, isi_str_tuple, isi_str_list, isi_tuple_int, isi_tuple_bool, isi_tuple_str, isi_tuple_tuple, isi_tuple_list, isi_list_int, isi_list_bool, isi_list_str, isi_list_tuple, isi_list_list, isi_NoneType_int, isi_NoneType_bool, isi_NoneType_str, isi_NoneType_tuple, isi_NoneType_list, isi_bool_int, isi_bool_bool, isi_bool_str, isi_bool_tuple, isi_bool_list, strM, eqP_bb, neP_bb, andV, orV, notV, slM, slMv, asInt, str_len, addP_ii, addP_ib, addP_ss, addP_ll, addP_tt, iaddP_ii, subP_ii, mulP_ii, mulP_si, fdivP_ii, modP_ii, negP_i, absP_i, intP_i, intP_b, ltP_ii, leP_ii, gtP_ii, geP_ii, ltP_ss, leP_ss, gtP_ss, geP_ss, eqP_ii, eqP_ss, neP_ii, neP_ss, isP_b, isNotP_b, inP_1, notInP_1, lenP_s, lenP_l, lenP_t, lenP_q, listP_s, listP_l, listP_t, tupleP_l, tupleP_t, ixP_l, ixP_t, ixP_q, ixP_s, atI_nat, atI_2, atI_3, atI_4, atI_0, atI_1, atI_last, setV_l, getV_l, ixN_nat, ixN_2, ixN_3, ixN_4, ixN_0, ixN_1, popP_n, appendP_1, extendP_l, slP_to, slP_from, slP_tto, slP_tfrom, slP_lto, slP_lfrom, MC.when, fl]
  obtain ⟨ρ', h1, x7', rfl⟩ := forM_inv (h := put 7 false) (f := bd1__law_cuts) (fun i ρ => ∃ x7', ρ = Cs s m x2 x3 (acc ++ (List.range i).map fun i => row ++ [lowR row + i]) row (some (false, .int (lowR row))) x7') (rangeL (lowR row) (s + 1 : Nat)) 0 (Cs s m x2 x3 acc row (some (false, .int (lowR row))) x7) ⟨x7, by simp⟩ (by
    rintro i x _ hx ⟨x7', rfl⟩
    unfold rangeL at hx
    rw [List.getElem?_map] at hx
    obtain ⟨j, h1, rfl⟩ := Option.map_eq_some_iff.mp hx
    obtain ⟨h3, h4⟩ := List.getElem?_eq_some_iff.mp h1
    simp at h3 h4
    subst h4
    rw [Nat.zero_add]
    have := cuts_bd1 (s := s) (m := m) (x2 := x2) (x3 := x3) (acc := acc ++ (List.range i).map fun i => row ++ [lowR row + i]) (row := row) (x6 := some (false, .int (lowR row))) (p := lowR row + i) hr (by rw [List.length_append, List.length_map, List.length_range]; omega)
    refine ⟨_, .inl (bind_of rfl this), some (false, .int (lowR row + i : Nat)), ?_⟩
    rw [List.range_succ, List.map_append, ← List.append_assoc]; rfl)
  have hn : (rangeL (lowR row) (s + 1 : Nat)).length = s + 1 - lowR row := by rw [rangeL_len]; omega
  rw [hn, Nat.zero_add] at h1
  refine ⟨some (false, .int (lowR row)), x7', ?_⟩
  unfold bd2__law_cuts
  refine seq_nx k1 ?_
  unfold fo1__law_cuts
  refine bind_of (a := rangeL (lowR row) (s + 1 : Nat)) (ρ' := Cs s m x2 x3 acc row (some (false, .int (lowR row))) x7) ?_ h1
  have e1 : (s : Int) + 1 = (s + 1 : Nat) := by omega
  unfold Cs range2M
  generalize ((s + 1 : Nat) : Int) = M at *
  generalize (s : Int) = T at *
  generalize (lowR row : Int) = L at *
  simp -implicitDefEqProofs [e1, bind_run, pure_run, lift_run, ite_run, bad_run, fnOf, runF, argE, seqM, ifM, asT, bin2, bin2v, un1, unL, asF, setM, setIxM, augIxM, augM, retM, giveM, dropM, look, take, put, frz1, ownsAny, owns, store, change, mutM, onL, isB, truM, truP, MC.notM, MC.andM, MC.orM, chain, tupM, lstM, consM, outs, callM, valM, slotM, argSlots, frzS, resolve, ioSlots, setIo, itemsM, itemsOf, PV.flat, isi_int_int, isi_int_bool, isi_int_str, isi_int_tuple, isi_int_list, isi_str_int, isi_str_bool, isi_str_str, isi_str_tuple, isi_str_list, isi_tuple_int, isi_tuple_bool, isi_tuple_str, isi_tuple_tuple, isi_tuple_list, isi_list_int, isi_list_bool, isi_list_str, isi_list_tuple, isi_list_list, isi_NoneType_int, isi_NoneType_bool, isi_NoneType_str, isi_NoneType_tuple, isi_NoneType_list, isi_bool_int, isi_bool_bool, isi_bool_str, isi_bool_tuple, isi_bool_list, strM, eqP_bb, neP_bb, andV, orV, notV, slM, slMv, asInt, str_len, addP_ii, addP_ib, addP_ss, addP_ll, addP_tt, iaddP_ii, subP_ii, mulP_ii, mulP_si, fdivP_ii, modP_ii, negP_i, absP_i, intP_i, intP_b, ltP_ii, leP_ii, gtP_ii, geP_ii, ltP_ss, leP_ss, gtP_ss, geP_ss, eqP_ii, eqP_ss, neP_ii, neP_ss, isP_b, isNotP_b, inP_1, notInP_1, lenP_s, lenP_l, lenP_t, lenP_q, listP_s, listP_l, listP_t, tupleP_l, tupleP_t, ixP_l, ixP_t, ixP_q, ixP_s, atI_nat, atI_2, atI_3, atI_4, atI_0, atI_1, atI_last, setV_l, getV_l, ixN_nat, ixN_2, ixN_3, ixN_4, ixN_0, ixN_1, popP_n, appendP_1, extendP_l, slP_to, slP_from, slP_tto, slP_tfrom, slP_lto, slP_lfrom, MC.when, fl]
theorem cuts_bd3 {s m k : Nat} {x3 x4 x5 x6 x7 : Option (Bool × PV)} {b : Bool} (hs : s ≤ 900) (hk : k ≤ 900) (ha : ∀ j, j ≤ k + 1 → (cu s j).length ≤ 1000) :
    ∃ x4' x5' x6' x7', bd3__law_cuts [some (false, .int s), some (false, .int m), some (b, .lst ((cu s k).map TN)), x3, x4, x5, x6, x7] = some (.nx, [some (false, .int s), some (false, .int m), some (false, .lst ((cu s (k + 1)).map TN)), x3, x4', x5', x6', x7']) := by
  have k1 : setM 4 (lstM (pure [])) [some (false, .int s), some (false, .int m), some (b, .lst ((cu s k).map TN)), x3, x4, x5, x6, x7] = some (.nx, [some (false, .int s), some (false, .int m), some (b, .lst ((cu s k).map TN)), x3, some (true, .lst []), x5, x6, x7]) := by
    generalize (cu s k).map TN = Z
    simp -implicitDefEqProofs [f0', bind_run, pure_run, lift_run, ite_run, bad_run, fnOf, runF, argE, seqM, ifM, asT, bin2, bin2v, un1, unL, asF, setM, setIxM, augIxM, augM, retM, giveM, dropM, look, take, put, frz1, ownsAny, owns, store, change, mutM, onL, isB, truM, truP, MC.notM, MC.andM, MC.orM, chain, tupM, lstM, consM, outs, callM, valM, slotM, argSlots, frzS, resolve, ioSlots, setIo, itemsM, itemsOf, PV.flat, isi_int_int, isi_int_bool, isi_int_str, isi_int_tuple, isi_int_list, isi_str_int, isi_str_bool, isi_str_str, isi_str_tuple, isi_str_list, isi_tuple_int, isi_tuple_bool, isi_tuple_str, isi_tuple_tuple, isi_tuple_list, isi_list_int, isi_list_bool, isi_list_str, isi_list_tuple, isi_list_list, isi_NoneType_int, isi_NoneType_bool, isi_NoneType_str, isi_NoneType_tuple, isi_NoneType_list, isi_bool_int, isi_bool_bool, isi_bool_str, isi_bool_tuple, isi_bool_list, strM, eqP_bb, neP_bb, andV, orV, notV, slM, slMv, asInt, str_len, addP_ii, addP_ib, addP_ss, addP_ll, addP_tt, iaddP_ii, subP_ii, mulP_ii, mulP_si, fdivP_ii, modP_ii, negP_i, absP_i, intP_i, intP_b, ltP_ii, leP_ii, gtP_ii, geP_ii, ltP_ss, leP_ss, gtP_ss, geP_ss, eqP_ii, eqP_ss, neP_ii, neP_ss, isP_b, isNotP_b, inP_1, notInP_1, lenP_s, lenP_l, lenP_t, lenP_q, listP_s, listP_l, listP_t, tupleP_l, tupleP_t, ixP_l, ixP_t, ixP_q, ixP_s, atI_nat, atI_2, atI_3, atI_4, atI_0, atI_1, atI_last, setV_l, getV_l, ixN_nat, ixN_2, ixN_3, ixN_4, ixN_0, ixN_1, popP_n, appendP_1, extendP_l, slP_to, slP_from, slP_tto, slP_tfrom, slP_lto, slP_lfrom, MC.when, fl]
  obtain ⟨ρ', h1, x5', x6', x7', rfl⟩ := forM_pre (h := put 5 false) (f := bd2__law_cuts) TN (fun pre ρ => ∃ x5' x6' x7', ρ = [some (false, .int s), some (false, .int m), some (false, .lst ((cu s k).map TN)), x3, some (true, .lst ((pre.flatMap fun row => (List.range (s + 1 - lowR row)).map fun i => row ++ [lowR row + i]).map TN)), x5', x6', x7']) (cu s k) (ρ := [some (false, .int s), some (false, .int m), some (false, .lst ((cu s k).map TN)), x3, some (true, .lst []), x5, x6, x7]) ⟨x5, x6, x7, rfl⟩ (by
    rintro pre row post _ e ⟨x5', x6', x7', rfl⟩
    have hb := ha (k + 1) (Nat.le_refl _)
    unfold cu at hb
    rw [e, List.flatMap_append, List.length_append] at hb
    have hl := (cu_mem.mp (show row ∈ cu s k by rw [e]; simp)).1
    obtain ⟨y6, y7, h⟩ := cuts_bd2 (s := s) (m := m) (x2 := some (false, .lst ((cu s k).map TN))) (x3 := x3) (acc := pre.flatMap fun row => (List.range (s + 1 - lowR row)).map fun i => row ++ [lowR row + i]) (row := row) (x6 := x6') (x7 := x7') (by omega) hs (by omega)
    refine ⟨_, bind_of rfl h, some (false, TN row), y6, y7, ?_⟩
    unfold Cs
    rw [List.flatMap_append]; simp)
  refine ⟨some (false, .lst ((cu s (k + 1)).map TN)), x5', x6', x7', ?_⟩
  unfold bd3__law_cuts
  refine seq_nx k1 (seq_nx (ρ' := [some (false, .int s), some (false, .int m), some (false, .lst ((cu s k).map TN)), x3, some (true, .lst ((cu s (k + 1)).map TN)), x5', x6', x7']) ?_ rfl)
  unfold fo2__law_cuts
  refine bind_of (a := (cu s k).map TN) (ρ' := [some (false, .int s), some (false, .int m), some (false, .lst ((cu s k).map TN)), x3, some (true, .lst []), x5, x6, x7]) ?_ h1
  generalize (cu s k).map TN = Z
  cases b <;> simp -implicitDefEqProofs [bind_run, pure_run, lift_run, ite_run, bad_run, fnOf, runF, argE, seqM, ifM, asT, bin2, bin2v, un1, unL, asF, setM, setIxM, augIxM, augM, retM, giveM, dropM, look, take, put, frz1, ownsAny, owns, store, change, mutM, onL, isB, truM, truP, MC.notM, MC.andM, MC.orM, chain, tupM, lstM, consM, outs, callM, valM, slotM, argSlots, frzS, resolve, ioSlots, setIo, itemsM, itemsOf, PV.flat, isi_int_int, isi_int_bool, isi_int_str, isi_int_tuple, isi_int_list, isi_str_int, isi_str_bool, isi_str_str, isi_str_tuple, isi_str_list, isi_tuple_int, isi_tuple_bool, isi_tuple_str, isi_tuple_tuple, isi_tuple_list, isi_list_int, isi_list_bool, isi_list_str, isi_list_tuple, isi_list_list, isi_NoneType_int, isi_NoneType_bool, isi_NoneType_str, isi_NoneType_tuple, isi_NoneType_list, isi_bool_int, isi_bool_bool, isi_bool_str, isi_bool_tuple, isi_bool_list, strM, eqP_bb, neP_bb, andV, orV, notV, slM, slMv, asInt, str_len, addP_ii, addP_ib, addP_ss, addP_ll, addP_tt, iaddP_ii, subP_ii, mulP_ii, mulP_si, fdivP_ii, modP_ii, negP_i, absP_i, intP_i, intP_b, ltP_ii, leP_ii, gtP_ii, geP_ii, ltP_ss, leP_ss, gtP_ss, geP_ss, eqP_ii, eqP_ss, neP_ii, neP_ss, isP_b, isNotP_b, inP_1, notInP_1, lenP_s, lenP_l, lenP_t, lenP_q, listP_s, listP_l, listP_t, tupleP_l, tupleP_t, ixP_l, ixP_t, ixP_q, ixP_s, atI_nat, atI_2, atI_3, atI_4, atI_0, atI_1, atI_last, setV_l, getV_l, ixN_nat, ixN_2, ixN_3, ixN_4, ixN_0, ixN_1, popP_n, appendP_1, extendP_l, slP_to, slP_from, slP_tto, slP_tfrom, slP_lto, slP_lfrom, MC.when, fl]
theorem cuts_ok {s m : Nat} (hs : s ≤ 900) (hm : m ≤ 900) (ha : ∀ j, j ≤ m → (cu s j).length ≤ 1000) : ∃ b, F__law_cuts [.int s, .int (m + 1 : Nat)] = some ((b, .lst ((cu s m).map TN)), []) := by
  obtain ⟨ρ', h1, b, x3, x4, x5, x6, x7, rfl⟩ := forM_inv (h := put 3 false) (f := bd3__law_cuts) (fun i ρ => ∃ b x3 x4 x5 x6 x7, ρ = [some (false, .int s), some (false, .int (m + 1 : Nat)), some (b, .lst ((cu s i).map TN)), x3, x4, x5, x6, x7]) (rangeL 0 m) 0 [some (false, .int s), some (false, .int (m + 1 : Nat)), some (true, .lst [TN []]), none, none, none, none, none] ⟨true, none, none, none, none, none, rfl⟩ (by
    rintro i x _ hx ⟨b, x3, x4, x5, x6, x7, rfl⟩
    obtain ⟨hi, rfl⟩ := range_get hx
    rw [Nat.zero_add]
    obtain ⟨y4, y5, y6, y7, h⟩ := cuts_bd3 (s := s) (m := m + 1) (k := i) (x3 := some (false, .int i)) (x4 := x4) (x5 := x5) (x6 := x6) (x7 := x7) (b := b) hs (by omega) (fun j hj => ha j (by omega))
    exact ⟨_, .inl (bind_of rfl h), false, some (false, .int i), y4, y5, y6, y7, rfl⟩)
  rw [range_len, Nat.zero_add] at h1
  have k1 : setM 2 (lstM (consM (asF (tupM (pure []))) (pure []))) [some (false, .int s), some (false, .int (m + 1 : Nat)), none, none, none, none, none, none] = some (.nx, [some (false, .int s), some (false, .int (m + 1 : Nat)), some (true, .lst [TN []]), none, none, none, none, none]) := by
    generalize ((m + 1 : Nat) : Int) = M
    simp -implicitDefEqProofs [f0', f1', bind_run, pure_run, lift_run, ite_run, bad_run, fnOf, runF, argE, seqM, ifM, asT, bin2, bin2v, un1, unL, asF, setM, setIxM, augIxM, augM, retM, giveM, dropM, look, take, put, frz1, ownsAny, owns, store, change, mutM, onL, isB, truM, truP, MC.notM, MC.andM, MC.orM, chain, tupM, lstM, consM, outs, callM, valM, slotM, argSlots, frzS, resolve, ioSlots, setIo, itemsM, itemsOf, PV.flat, isi_int_int, isi_int_bool, isi_int_str, isi_int_tuple, isi_int_list, isi_str_int, isi_str_bool, isi_str_str, isi_str_tuple, isi_str_list, isi_tuple_int, isi_tuple_bool, isi_tuple_str, isi_tuple_tuple, isi_tuple_list, isi_list_int, isi_list_bool, isi_list_str, isi_list_tuple, isi_list_list, isi_NoneType_int, isi_NoneType_bool, isi_NoneType_str, isi_NoneType_tuple, isi_NoneType_list, isi_bool_int, isi_bool_bool, isi_bool_str, isi_bool_tuple, isi_bool_list, strM, eqP_bb, neP_bb, andV, orV, notV, slM, slMv, asInt, str_len, addP_ii, addP_ib, addP_ss, addP_ll, addP_tt, iaddP_ii, subP_ii, mulP_ii, mulP_si, fdivP_ii, modP_ii, negP_i, absP_i, intP_i, intP_b, ltP_ii, leP_ii, gtP_ii, geP_ii, ltP_ss, leP_ss, gtP_ss, geP_ss, eqP_ii, eqP_ss, neP_ii, neP_ss, isP_b, isNotP_b, inP_1, notInP_1, lenP_s, lenP_l, lenP_t, lenP_q, listP_s, listP_l, listP_t, tupleP_l, tupleP_t, ixP_l, ixP_t, ixP_q, ixP_s, atI_nat, atI_2, atI_3, atI_4, atI_0, atI_1, atI_last, setV_l, getV_l, ixN_nat, ixN_2, ixN_3, ixN_4, ixN_0, ixN_1, popP_n, appendP_1, extendP_l, slP_to, slP_from, slP_tto, slP_tfrom, slP_lto, slP_lfrom, MC.when, fl]
  have k2 : fo3__law_cuts [some (false, .int s), some (false, .int (m + 1 : Nat)), some (true, .lst [TN []]), none, none, none, none, none] = some (.nx, [some (false, .int s), some (false, .int (m + 1 : Nat)), some (b, .lst ((cu s m).map TN)), x3, x4, x5, x6, x7]) := by
    unfold fo3__law_cuts
    refine for_range (n := m) (ρ' := [some (false, .int s), some (false, .int (m + 1 : Nat)), some (true, .lst [TN []]), none, none, none, none, none]) ?_ (by omega) h1
    have e1 : ((m + 1 : Nat) : Int) - 1 = (m : Nat) := by omega
    generalize ((m + 1 : Nat) : Int) = M at *
    generalize (m : Int) = M2 at *
    simp -implicitDefEqProofs [e1, bind_run, pure_run, lift_run, ite_run, bad_run, fnOf, runF, argE, seqM, ifM, asT, bin2, bin2v, un1, unL, asF, setM, setIxM, augIxM, augM, retM, giveM, dropM, look, take, put, frz1, ownsAny, owns, store, change, mutM, onL, isB, truM, truP, MC.notM, MC.andM, MC.orM, chain, tupM, lstM, consM, outs, callM, valM, slotM, argSlots, frzS, resolve, ioSlots, setIo, itemsM, itemsOf, PV.flat, isi_int_int, isi_int_bool, isi_int_str, isi_int_tuple, isi_int_list, isi_str_int, isi_str_bool, isi_str_str, isi_str_tuple, isi_str_list, isi_tuple_int, isi_tuple_bool, isi_tuple_str, isi_tuple_tuple, isi_tuple_list, isi_list_int, isi_list_bool, isi_list_str, isi_list_tuple, isi_list_list, isi_NoneType_int, isi_NoneType_bool, isi_NoneType_str, isi_NoneType_tuple, isi_NoneType_list, isi_bool_int, isi_bool_bool, isi_bool_str, isi_bool_tuple, isi_bool_list, strM, eqP_bb, neP_bb, andV, orV, notV, slM, slMv, asInt, str_len, addP_ii, addP_ib, addP_ss, addP_ll, addP_tt, iaddP_ii, subP_ii, mulP_ii, mulP_si, fdivP_ii, modP_ii, negP_i, absP_i, intP_i, intP_b, ltP_ii, leP_ii, gtP_ii, geP_ii, ltP_ss, leP_ss, gtP_ss, geP_ss, eqP_ii, eqP_ss, neP_ii, neP_ss, isP_b, isNotP_b, inP_1, notInP_1, lenP_s, lenP_l, lenP_t, lenP_q, listP_s, listP_l, listP_t, tupleP_l, tupleP_t, ixP_l, ixP_t, ixP_q, ixP_s, atI_nat, atI_2, atI_3, atI_4, atI_0, atI_1, atI_last, setV_l, getV_l, ixN_nat, ixN_2, ixN_3, ixN_4, ixN_0, ixN_1, popP_n, appendP_1, extendP_l, slP_to, slP_from, slP_tto, slP_tfrom, slP_lto, slP_lfrom, MC.when, fl]
  cases b
  · exact ⟨_, fn_run rfl rfl (seq_nx k1 (seq_nx k2 rfl)) rfl⟩
  · exact ⟨_, fn_run rfl rfl (seq_nx k1 (seq_nx k2 rfl)) rfl⟩
end MC.Law
set_option Elab.async false
set_option linter.all false
set_option maxRecDepth 100000
set_option maxHeartbeats 4000000
/-! sorting by keys; all tuples -/
namespace MC.Law
open PySem PySem.W
theorem strOk_low {w : List Nat} (h : ∀ c ∈ w, c ≤ 1000) : PyData.strOk ⟨⟨w⟩⟩ = true := by
  show (w.toArray).all (fun c => decide (c < 0x110000)) = true
  rw [List.all_toArray, List.all_eq_true]
  intro c hc
  have := h c hc
  exact decide_eq_true (by omega)
/-- a tuple of words that a key may be taken of -/
structure Fine (ws : List Wd) : Prop where
  n : ws.length ≤ 1000
  w : ∀ w ∈ ws, w.length ≤ 1000
  c : ∀ w ∈ ws, ∀ c ∈ w, c ≤ 1000
theorem wp_tv {w : Wd} (h : ∀ c ∈ w, c ≤ 1000) : TV 1 (WP w) := TV.tup fun y hy => by
  rcases List.mem_cons.mp hy with rfl | hy
  · exact TV.int
  · rw [List.mem_singleton.mp hy]; exact TV.str (strOk_low h)
theorem wps_tv {ws : List Wd} (h : Fine ws) : ∀ y ∈ ws.map WP, TV 1 y := fun y hy => by
  obtain ⟨w, hw, rfl⟩ := List.mem_map.mp hy
  exact wp_tv (h.c w hw)
theorem ko_tv {ws : List Wd} (h : Fine ws) : TV 3 (KO ws) := TV.tup fun y hy => by
  rcases List.mem_cons.mp hy with rfl | hy
  · exact TV.int
  · rw [List.mem_singleton.mp hy]; exact TV.lst (wps_tv h)
theorem km_tv {ws : List Wd} (h : Fine ws) : TV 3 (KM ws) := TV.tup fun y hy => by
  rcases List.mem_cons.mp hy with rfl | hy
  · exact TV.int
  · rw [List.mem_singleton.mp hy]; exact TV.tup (wps_tv h)
theorem tu_tv {ws : List Wd} (h : Fine ws) : TV 1 (TU ws) := TV.tup fun y hy => by
  obtain ⟨w, hw, rfl⟩ := List.mem_map.mp hy
  exact TV.str (strOk_low (h.c w hw))
theorem keysBy_map {F : Fn} {k : List Wd → PV} : ∀ (l : List (List Wd)), (∀ ws ∈ l, F [TU ws] = some ((false, k ws), [])) → keysBy F (l.map TU) = some (l.map k)
  | [], _ => rfl
  | ws :: l, h => by
    rw [List.map_cons, List.map_cons]
    unfold keysBy
    rw [h ws List.mem_cons_self]
    show (keysBy F (l.map TU)).map _ = _
    rw [keysBy_map l fun x hx => h x (List.mem_cons_of_mem _ hx)]; rfl
theorem zip_maps {α β γ : Type} (f : α → β) (g : α → γ) : ∀ l : List α, (l.map f).zip (l.map g) = l.map fun x => (f x, g x)
  | [] => rfl
  | x :: l => by rw [List.map_cons, List.map_cons, List.zip_cons_cons, List.map_cons, zip_maps f g l]
theorem sortKey_map {F : Fn} {k : List Wd → PV} {l : List (List Wd)} (hF : ∀ ws ∈ l, F [TU ws] = some ((false, k ws), [])) (hk : ∀ ws ∈ l, TV 3 (k ws)) (ha : ∀ a b, alike (toD (k a)) (toD (k b)) = true) (hs : ∀ a, ∃ x r, toD (k a) = .tuple (x :: r)) (hle : (dataLe false fun ws => toD (k ws)) = leK) (hn : l.length ≤ 100000) :
    sortKeyP F (.lst (l.map TU)) = some (true, .lst ((srt l).map TU)) := by
  show (keysBy F (l.map TU)).bind _ = _
  rw [keysBy_map l hF]
  show sortWith (l.map k) (l.map TU) = _
  have e1 : (l.map k).map toD = l.map fun ws => toD (k ws) := by rw [List.map_map]; rfl
  have ok : OkKeys (l.map k) := ⟨fun x hx => by
      obtain ⟨ws, hw, rfl⟩ := List.mem_map.mp hx
      obtain ⟨h1, h2⟩ := (hk ws hw).lay
      exact ⟨h1, by omega⟩, by rw [e1]; exact AllAlike.of ha, by rw [e1]; exact Sortable.tuples hs⟩
  unfold sortWith
  rw [if_pos ⟨ok, by rw [List.length_map]; omega, by rw [List.length_map, List.length_map]⟩]
  congr 3
  unfold sortBy
  rw [zip_maps, ← List.map_mergeSort (r := leK) (f := fun ws => (k ws, TU ws)) (fun a _ b _ => by rw [← hle]; rfl), List.map_map]
  rfl
theorem alike_ko (a b : List Wd) : alike (toD (KO a)) (toD (KO b)) = true := by
  rw [toD_KO, toD_KO]; simp [alike, alikeAll, alike_wds]
theorem alike_km (a b : List Wd) : alike (toD (KM a)) (toD (KM b)) = true := by
  rw [toD_KM, toD_KM]; simp [alike, alikeAll, alike_wds]
theorem sort_order {l : List (List Wd)} (h : ∀ ws ∈ l, Fine ws) (hn : l.length ≤ 100000) : sortKeyP F__law_order (.lst (l.map TU)) = some (true, .lst ((srt l).map TU)) :=
  sortKey_map (fun ws hw => order_ok (h ws hw).n (h ws hw).w) (fun ws hw => ko_tv (h ws hw)) alike_ko (fun a => ⟨_, _, toD_KO a⟩) rfl hn
theorem sort_model {l : List (List Wd)} (h : ∀ ws ∈ l, Fine ws) (hn : l.length ≤ 100000) : sortKeyP F_model_key (.lst (l.map TU)) = some (true, .lst ((srt l).map TU)) :=
  sortKey_map (fun ws hw => mkey_ok (h ws hw).n (h ws hw).w) (fun ws hw => km_tv (h ws hw)) alike_km (fun a => ⟨_, _, toD_KM a⟩) leK_KM hn
/-! all tuples -/
theorem lcLoop_imgp {α : Type} {vs : List Nat} {h : PV → M Unit} {ft : M Bool} {fe : M PV} {ρ : Env} (f g : α → PV) (p : α → Bool) : ∀ (l : List α),
    (∀ a ∈ l, ∃ ρ1, (h (f a) >>= fun _ => ft) ρ = some (p a, ρ1) ∧ clear vs ρ1 = ρ ∧ ∃ ρ2, fe ρ1 = some (g a, ρ2) ∧ clear vs ρ2 = ρ) → lcLoop vs h ft fe (l.map f) ρ = some ((l.filter p).map g, ρ)
  | [], _ => rfl
  | x :: xs, hs => by
    have ih := lcLoop_imgp f g p xs fun y hy => hs y (List.mem_cons_of_mem _ hy)
    obtain ⟨ρ1, h1, h4, ρ2, h2, h3⟩ := hs x List.mem_cons_self
    rw [List.map_cons]
    unfold lcLoop
    rw [bind_run] at h1 ⊢
    cases q : h (f x) ρ with
    | none => rw [q] at h1; cases h1
    | some z =>
      rw [q] at h1
      refine bind_of (show ft z.2 = some (p x, ρ1) from h1) ?_
      cases e : p x with
      | true =>
        rw [if_pos rfl]
        refine bind_of h2 (bind_of rfl ?_)
        rw [h3, List.filter_cons_of_pos e]
        exact bind_of ih rfl
      | false =>
        rw [if_neg Bool.false_ne_true]
        refine bind_of rfl ?_
        rw [h4, List.filter_cons_of_neg (by rw [e]; exact Bool.false_ne_true)]
        exact ih
theorem lcM_imgp {α : Type} {fi : M (List PV)} {vs : List Nat} {h : PV → M Unit} {ft : M Bool} {fe : M PV} {ρ ρ1 : Env} {l : List α} (f g : α → PV) (p : α → Bool) (hi : fi ρ = some (l.map f, ρ1)) (hc : clear vs ρ1 = ρ1) (hr : restore ρ1 vs ρ1 = ρ1)
    (hs : ∀ a ∈ l, ∃ ρ2, (h (f a) >>= fun _ => ft) ρ1 = some (p a, ρ2) ∧ clear vs ρ2 = ρ1 ∧ ∃ ρ3, fe ρ2 = some (g a, ρ3) ∧ clear vs ρ3 = ρ1) (hn : l.length ≤ 100000) :
    lcM fi vs h ft fe ρ = some ((true, .lst ((l.filter p).map g)), ρ1) :=
  lcM_run hi (by rw [hc]; exact lcLoop_imgp f g p l hs) hr (by rw [List.length_map]; exact Nat.le_trans (List.length_filter_le _ _) hn)
theorem wv_short (A : List Nat) (t : Nat) : ∀ n, n ≤ t → (wv A n).filter (fun w => decide (w.length = t)) = []
  | 0, _ => rfl
  | n + 1, h => by
    show (wv A n ++ wl A n).filter _ = []
    rw [List.filter_append, wv_short A t n (by omega), List.nil_append, List.filter_eq_nil_iff]
    intro w hw
    rw [wl_len hw]; simp; omega
theorem wv_at (A : List Nat) (t : Nat) : (wv A (t + 1)).filter (fun w => decide (w.length = t)) = wl A t := by
  show (wv A t ++ wl A t).filter _ = _
  rw [List.filter_append, wv_short A t t (Nat.le_refl _), List.nil_append, List.filter_eq_self]
  intro w hw
  rw [wl_len hw]; simp
theorem wv_len {A : List Nat} : ∀ {n : Nat} {w : Wd}, w ∈ wv A n → w.length < n
  | n + 1, w, h => by
    rcases List.mem_append.mp h with h | h
    · have := wv_len h; omega
    · rw [wl_len h]; omega
structure BA (A : List Nat) (m t : Nat) : Prop where
  b : Bt A m t
  d : Bd A t
  l : ∀ i, i < t → (wl A i).length * A.length ≤ 900
  c : ∀ k, k < m → (cu t k).length ≤ 1000
  s : A.Pairwise (· < ·)
  r : ∀ c ∈ A, c ≤ 1000
theorem at_lc {A : List Nat} {m t : Nat} {x3 x4 x5 : Option (Bool × PV)} (B : BA A m t) : lc1__law_all_tuples [some (false, S A), some (false, .int m), some (false, .int t), x3, x4, x5, none] = some ((true, .lst ((wl A t).map S)), [some (false, S A), some (false, .int m), some (false, .int t), x3, x4, x5, none]) := by
  have hw := lw_ok B.d B.l
  unfold lc1__law_all_tuples
  rw [← wv_at]
  refine lcM_imgp (l := wv A (t + 1)) (ρ1 := [some (false, S A), some (false, .int m), some (false, .int t), x3, x4, x5, none]) S S (fun w => decide (w.length = t)) ?_ rfl rfl (fun w hm => ⟨[some (false, S A), some (false, .int m), some (false, .int t), x3, x4, x5, some (false, S w)], ?_, rfl, [some (false, S A), some (false, .int m), some (false, .int t), x3, x4, x5, some (false, S w)], ?_, rfl⟩) ?_
  · generalize (wv A (t + 1)).map S = Z at *
    generalize (t : Int) = T at *
    simp -implicitDefEqProofs [hw, bind_run, pure_run, lift_run, ite_run, bad_run, fnOf, runF, argE, seqM, ifM, asT, bin2, bin2v, un1, unL, asF, setM, setIxM, augIxM, augM, retM, giveM, dropM, look, take, put, frz1, ownsAny, owns, store, change, mutM, onL, isB, truM, truP, MC.notM, MC.andM, MC.orM, chain, tupM, lstM, consM, outs, callM, valM, slotM, argSlots, frzS, resolve, ioSlots, setIo, itemsM, itemsOf, PV.flat, isi_int_int, isi_int_bool, isi_int_str, isi_int_tuple, isi_int_list, isi_str_int, isi_str_bool, isi_str_str, isi_str_tuple, isi_str_list, isi_tuple_int, isi_tuple_bool, isi_tuple_str, isi_tuple_tuple, isi_tuple_list, isi_list_int, isi_list_bool, isi_list_str, isi_list_tuple, isi_list_list, isi_NoneType_int, isi_NoneType_bool, isi_NoneType_str, isi_NoneType_tuple, isi_NoneType_list, isi_bool_int, isi_bool_bool, isi_bool_str, isi_bool_tuple, isi_bool_list, strM, eqP_bb, neP_bb, andV, orV, notV, slM, slMv, asInt, str_len, addP_ii, addP_ib, addP_ss, addP_ll, addP_tt, iaddP_ii, subP_ii, mulP_ii, mulP_si, fdivP_ii, modP_ii, negP_i, absP_i, intP_i, intP_b, ltP_ii, leP_ii, gtP_ii, geP_ii, ltP_ss, leP_ss, gtP_ss, geP_ss, eqP_ii, eqP_ss, neP_ii, neP_ss, isP_b, isNotP_b, inP_1, notInP_1, lenP_s, lenP_l, lenP_t, lenP_q, listP_s, listP_l, listP_t, tupleP_l, tupleP_t, ixP_l, ixP_t, ixP_q, ixP_s, atI_nat, atI_2, atI_3, atI_4, atI_0, atI_1, atI_last, setV_l, getV_l, ixN_nat, ixN_2, ixN_3, ixN_4, ixN_0, ixN_1, popP_n, appendP_1, extendP_l, slP_to, slP_from, slP_tto, slP_tfrom, slP_lto, slP_lfrom, MC.when, fl]
  · have h := wv_len hm
    have hl := lenS (w := w) (by have := B.b.bt; omega)
    have e : decide (w.length = t) = decide ((w.length : Int) = t) := decide_eq_decide.mpr (by omega)
    rw [e]
    generalize (w.length : Int) = L at *
    generalize (t : Int) = T at *
    simp -implicitDefEqProofs [hl, bind_run, pure_run, lift_run, ite_run, bad_run, fnOf, runF, argE, seqM, ifM, asT, bin2, bin2v, un1, unL, asF, setM, setIxM, augIxM, augM, retM, giveM, dropM, look, take, put, frz1, ownsAny, owns, store, change, mutM, onL, isB, truM, truP, MC.notM, MC.andM, MC.orM, chain, tupM, lstM, consM, outs, callM, valM, slotM, argSlots, frzS, resolve, ioSlots, setIo, itemsM, itemsOf, PV.flat, isi_int_int, isi_int_bool, isi_int_str, isi_int_tuple, isi_int_list, isi_str_int, isi_str_bool, isi_str_str, isi_str_tuple, isi_str_list, isi_tuple_int, isi_tuple_bool, isi_tuple_str, isi_tuple_tuple, isi_tuple_list, isi_list_int, isi_list_bool, isi_list_str, isi_list_tuple, isi_list_list, isi_NoneType_int, isi_NoneType_bool, isi_NoneType_str, isi_NoneType_tuple, isi_NoneType_list, isi_bool_int, isi_bool_bool, isi_bool_str, isi_bool_tuple, isi_bool_list, strM, eqP_bb, neP_bb, andV, orV, notV, slM, slMv, asInt, str_len, addP_ii, addP_ib, addP_ss, addP_ll, addP_tt, iaddP_ii, subP_ii, mulP_ii, mulP_si, fdivP_ii, modP_ii, negP_i, absP_i, intP_i, intP_b, ltP_ii, leP_ii, gtP_ii, geP_ii, ltP_ss, leP_ss, gtP_ss, geP_ss, eqP_ii, eqP_ss, neP_ii, neP_ss, isP_b, isNotP_b, inP_1, notInP_1, lenP_s, lenP_l, lenP_t, lenP_q, listP_s, listP_l, listP_t, tupleP_l, tupleP_t, ixP_l, ixP_t, ixP_q, ixP_s, atI_nat, atI_2, atI_3, atI_4, atI_0, atI_1, atI_last, setV_l, getV_l, ixN_nat, ixN_2, ixN_3, ixN_4, ixN_0, ixN_1, popP_n, appendP_1, extendP_l, slP_to, slP_from, slP_tto, slP_tfrom, slP_lto, slP_lfrom, MC.when, fl]
  · simp -implicitDefEqProofs [bind_run, pure_run, lift_run, ite_run, bad_run, fnOf, runF, argE, seqM, ifM, asT, bin2, bin2v, un1, unL, asF, setM, setIxM, augIxM, augM, retM, giveM, dropM, look, take, put, frz1, ownsAny, owns, store, change, mutM, onL, isB, truM, truP, MC.notM, MC.andM, MC.orM, chain, tupM, lstM, consM, outs, callM, valM, slotM, argSlots, frzS, resolve, ioSlots, setIo, itemsM, itemsOf, PV.flat, isi_int_int, isi_int_bool, isi_int_str, isi_int_tuple, isi_int_list, isi_str_int, isi_str_bool, isi_str_str, isi_str_tuple, isi_str_list, isi_tuple_int, isi_tuple_bool, isi_tuple_str, isi_tuple_tuple, isi_tuple_list, isi_list_int, isi_list_bool, isi_list_str, isi_list_tuple, isi_list_list, isi_NoneType_int, isi_NoneType_bool, isi_NoneType_str, isi_NoneType_tuple, isi_NoneType_list, isi_bool_int, isi_bool_bool, isi_bool_str, isi_bool_tuple, isi_bool_list, strM, eqP_bb, neP_bb, andV, orV, notV, slM, slMv, asInt, str_len, addP_ii, addP_ib, addP_ss, addP_ll, addP_tt, iaddP_ii, subP_ii, mulP_ii, mulP_si, fdivP_ii, modP_ii, negP_i, absP_i, intP_i, intP_b, ltP_ii, leP_ii, gtP_ii, geP_ii, ltP_ss, leP_ss, gtP_ss, geP_ss, eqP_ii, eqP_ss, neP_ii, neP_ss, isP_b, isNotP_b, inP_1, notInP_1, lenP_s, lenP_l, lenP_t, lenP_q, listP_s, listP_l, listP_t, tupleP_l, tupleP_t, ixP_l, ixP_t, ixP_q, ixP_s, atI_nat, atI_2, atI_3, atI_4, atI_0, atI_1, atI_last, setV_l, getV_l, ixN_nat, ixN_2, ixN_3, ixN_4, ixN_0, ixN_1, popP_n, appendP_1, extendP_l, slP_to, slP_from, slP_tto, slP_tfrom, slP_lto, slP_lfrom, MC.when, fl]
  · have := B.d.v (t + 1) (Nat.le_refl _)
    omega
def At (A : List Nat) (m t : Nat) (acc : List (List Wd)) (x5 x6 : Option (Bool × PV)) : Env := [some (false, S A), some (false, .int m), some (false, .int t), some (false, .lst ((wl A t).map S)), some (true, .lst (acc.map TU)), x5, x6]
theorem at_bd1 {A : List Nat} {m t : Nat} {acc : List (List Wd)} {row : List Nat} {w : Wd} (hw : w.length ≤ 1000) (hr : row.length ≤ 900) (ha : acc.length ≤ 2000) :
    bd1__law_all_tuples (At A m t acc (some (false, TN row)) (some (false, S w))) = some (.nx, At A m t (acc ++ [cutw w 0 row]) (some (false, TN row)) (some (false, S w))) := by
  have h1 := cut_ok hw hr
  have h2 := appendP_1 (xs := acc.map TU) (x := TU (cutw w 0 row)) (by rw [List.length_map]; omega)
  unfold At
  rw [show (acc ++ [cutw w 0 row]).map TU = acc.map TU ++ [TU (cutw w 0 row)] by rw [List.map_append]; rfl]
  generalize acc.map TU = Z1 at *
  generalize TU (cutw w 0 row) = Z2 at *
  generalize TN row = Z3 at *
  generalize (wl A t).map S = Z4
  simp -implicitDefEqProofs [bd1__law_all_tuples, h1, h2, bind_run, pure_run, lift_run, ite_run, bad_run, fnOf, runF, argE, seqM, ifM, asT, bin2, bin2v, un1, unL, asF, setM, setIxM, augIxM, augM, retM, giveM, dropM, look, take, put, frz1, ownsAny, owns, store, change, mutM, onL, isB, truM, truP, MC.notM, MC.andM, MC.orM, chain, tupM, lstM, consM, outs, callM, valM, slotM, argSlots, frzS, resolve, ioSlots, setIo, itemsM, itemsOf, PV.flat, isi_int_int, isi_int_bool, isi_int_str, isi_int_tuple, isi_int_list, isi_str_int, isi_str_bool, isi_str_str, isi_str_tuple, isi_str_list, isi_tuple_int, isi_tuple_bool, isi_tuple_str, isi_tuple_tuple, isi_tuple_list, isi_list_int, isi_list_bool, isi_list_str, isi_list_tuple, isi_list_list, isi_NoneType_int, isi_NoneType_bool, isi_NoneType_str, isi_NoneType_tuple, isi_NoneType_list, isi_bool_int, isi_bool_bool, isi_bool_str, isi_bool_tuple, isi_bool_list, strM, eqP_bb, neP_bb, andV, orV, notV, slM, slMv, asInt, str_len, addP_ii, addP_ib, addP_ss, addP_ll, addP_tt, iaddP_ii, subP_ii, mulP_ii, mulP_si, fdivP_ii, modP_ii, negP_i, absP_i, intP_i, intP_b, ltP_ii, leP_ii, gtP_ii, geP_ii, ltP_ss, leP_ss, gtP_ss, geP_ss, eqP_ii, eqP_ss, neP_ii, neP_ss, isP_b, isNotP_b, inP_1, notInP_1, lenP_s, lenP_l, lenP_t, lenP_q, listP_s, listP_l, listP_t, tupleP_l, tupleP_t, ixP_l, ixP_t, ixP_q, ixP_s, atI_nat, atI_2, atI_3, atI_4, atI_0, atI_1, atI_last, setV_l, getV_l, ixN_nat, ixN_2, ixN_3, ixN_4, ixN_0, ixN_1, popP_n, appendP_1, extendP_l, slP_to, slP_from, slP_tto, slP_tfrom, slP_lto, slP_lfrom, MC.when, fl]
theorem at_bd2 {A : List Nat} {m t : Nat} {acc : List (List Wd)} {row : List Nat} {x6 : Option (Bool × PV)} (ht : t ≤ 1000) (hr : row.length ≤ 900) (ha : acc.length + (wl A t).length ≤ 2000) (b : Bool) :
    ∃ x6', bd2__law_all_tuples [some (false, S A), some (false, .int m), some (false, .int t), some (b, .lst ((wl A t).map S)), some (true, .lst (acc.map TU)), some (false, TN row), x6] = some (.nx, At A m t (acc ++ (wl A t).map fun w => cutw w 0 row) (some (false, TN row)) x6') := by
  obtain ⟨ρ', h1, x6', rfl⟩ := forM_pre (h := put 6 false) (f := bd1__law_all_tuples) S (fun pre ρ => ∃ x6', ρ = At A m t (acc ++ pre.map fun w => cutw w 0 row) (some (false, TN row)) x6') (wl A t) (ρ := At A m t acc (some (false, TN row)) x6) ⟨x6, by simp⟩ (by
    rintro pre w post _ e ⟨x, rfl⟩
    refine ⟨_, bind_of (ρ' := At A m t (acc ++ pre.map fun w => cutw w 0 row) (some (false, TN row)) (some (false, S w))) rfl (at_bd1 (by rw [wl_len (show w ∈ wl A t by rw [e]; simp)]; omega) hr ?_), some (false, S w), ?_⟩
    · rw [e, List.length_append, List.length_cons] at ha
      rw [List.length_append, List.length_map]; omega
    · rw [List.map_append, ← List.append_assoc]; rfl)
  refine ⟨x6', ?_⟩
  unfold bd2__law_all_tuples fo1__law_all_tuples
  refine bind_of (a := (wl A t).map S) (ρ' := At A m t acc (some (false, TN row)) x6) ?_ h1
  unfold At
  generalize acc.map TU = Z1
  generalize (wl A t).map S = Z4
  cases b <;> simp -implicitDefEqProofs [bind_run, pure_run, lift_run, ite_run, bad_run, fnOf, runF, argE, seqM, ifM, asT, bin2, bin2v, un1, unL, asF, setM, setIxM, augIxM, augM, retM, giveM, dropM, look, take, put, frz1, ownsAny, owns, store, change, mutM, onL, isB, truM, truP, MC.notM, MC.andM, MC.orM, chain, tupM, lstM, consM, outs, callM, valM, slotM, argSlots, frzS, resolve, ioSlots, setIo, itemsM, itemsOf, PV.flat, isi_int_int, isi_int_bool, isi_int_str, isi_int_tuple, isi_int_list, isi_str_int, isi_str_bool, isi_str_str, isi_str_tuple, isi_str_list, isi_tuple_int, isi_tuple_bool, isi_tuple_str, isi_tuple_tuple, isi_tuple_list, isi_list_int, isi_list_bool, isi_list_str, isi_list_tuple, isi_list_list, isi_NoneType_int, isi_NoneType_bool, isi_NoneType_str, isi_NoneType_tuple, isi_NoneType_list, isi_bool_int, isi_bool_bool, isi_bool_str, isi_bool_tuple, isi_bool_list, strM, eqP_bb, neP_bb, andV, orV, notV, slM, slMv, asInt, str_len, addP_ii, addP_ib, addP_ss, addP_ll, addP_tt, iaddP_ii, subP_ii, mulP_ii, mulP_si, fdivP_ii, modP_ii, negP_i, absP_i, intP_i, intP_b, ltP_ii, leP_ii, gtP_ii, geP_ii, ltP_ss, leP_ss, gtP_ss, geP_ss, eqP_ii, eqP_ss, neP_ii, neP_ss, isP_b, isNotP_b, inP_1, notInP_1, lenP_s, lenP_l, lenP_t, lenP_q, listP_s, listP_l, listP_t, tupleP_l, tupleP_t, ixP_l, ixP_t, ixP_q, ixP_s, atI_nat, atI_2, atI_3, atI_4, atI_0, atI_1, atI_last, setV_l, getV_l, ixN_nat, ixN_2, ixN_3, ixN_4, ixN_0, ixN_1, popP_n, appendP_1, extendP_l, slP_to, slP_from, slP_tto, slP_tfrom, slP_lto, slP_lfrom, MC.when, fl]
theorem le_sum : ∀ {l : List Nat} {a : Nat}, a ∈ l → a ≤ l.sum
  | x :: l, a, h => by
    rw [List.sum_cons]
    rcases List.mem_cons.mp h with rfl | h
    · omega
    · have := le_sum h; omega
theorem fine_of {A : List Nat} {ws : List Wd} {m t : Nat} (hm : m ≤ 1000) (ht : t ≤ 1000) (hA : ∀ c ∈ A, c ≤ 1000) (h1 : ws.length = m) (h2 : total ws = t) (h3 : ∀ w ∈ ws, ∀ c ∈ w, c ∈ A) : Fine ws :=
  ⟨by omega, fun w hw => by
    have : w.length ≤ total ws := by
      unfold total
      exact le_sum (List.mem_map.mpr ⟨w, hw, rfl⟩)
    omega, fun w hw c hc => hA c (h3 w hw c hc)⟩
theorem tw_fine {A : List Nat} {m t : Nat} (B : BA A m t) : ∀ ws ∈ tw A m t, Fine ws := fun ws h => by
  obtain ⟨h1, h2, h3⟩ := tw_mem.mp h
  exact fine_of (by have := B.b.bm; omega) (by have := B.b.bt; omega) B.r h1 h2 h3
theorem alltup_ok {A : List Nat} {m t : Nat} (B : BA A m t) : F__law_all_tuples [S A, .int m, .int t] = some ((true, .lst ((tw A m t).map TU)), []) := by
  have bm := B.b.bm
  have bt := B.b.bt
  cases m with
  | zero =>
    unfold tw
    have e : (((0 : Nat) : Int) = 0) = True := by simp
    by_cases h : t = 0
    · subst h
      rw [if_pos rfl]
      simp -implicitDefEqProofs [F__law_all_tuples, sem__law_all_tuples, f0', f1', bind_run, pure_run, lift_run, ite_run, bad_run, fnOf, runF, argE, seqM, ifM, asT, bin2, bin2v, un1, unL, asF, setM, setIxM, augIxM, augM, retM, giveM, dropM, look, take, put, frz1, ownsAny, owns, store, change, mutM, onL, isB, truM, truP, MC.notM, MC.andM, MC.orM, chain, tupM, lstM, consM, outs, callM, valM, slotM, argSlots, frzS, resolve, ioSlots, setIo, itemsM, itemsOf, PV.flat, isi_int_int, isi_int_bool, isi_int_str, isi_int_tuple, isi_int_list, isi_str_int, isi_str_bool, isi_str_str, isi_str_tuple, isi_str_list, isi_tuple_int, isi_tuple_bool, isi_tuple_str, isi_tuple_tuple, isi_tuple_list, isi_list_int, isi_list_bool, isi_list_str, isi_list_tuple, isi_list_list, isi_NoneType_int, isi_NoneType_bool, isi_NoneType_str, isi_NoneType_tuple, isi_NoneType_list, isi_bool_int, isi_bool_bool, isi_bool_str, isi_bool_tuple, isi_bool_list, strM, eqP_bb, neP_bb, andV, orV, notV, slM, slMv, asInt, str_len, addP_ii, addP_ib, addP_ss, addP_ll, addP_tt, iaddP_ii, subP_ii, mulP_ii, mulP_si, fdivP_ii, modP_ii, negP_i, absP_i, intP_i, intP_b, ltP_ii, leP_ii, gtP_ii, geP_ii, ltP_ss, leP_ss, gtP_ss, geP_ss, eqP_ii, eqP_ss, neP_ii, neP_ss, isP_b, isNotP_b, inP_1, notInP_1, lenP_s, lenP_l, lenP_t, lenP_q, listP_s, listP_l, listP_t, tupleP_l, tupleP_t, ixP_l, ixP_t, ixP_q, ixP_s, atI_nat, atI_2, atI_3, atI_4, atI_0, atI_1, atI_last, setV_l, getV_l, ixN_nat, ixN_2, ixN_3, ixN_4, ixN_0, ixN_1, popP_n, appendP_1, extendP_l, slP_to, slP_from, slP_tto, slP_tfrom, slP_lto, slP_lfrom, MC.when, fl, e]
    · rw [if_neg h]
      have : ¬ ((t : Nat) : Int) = 0 := by omega
      generalize ((t : Nat) : Int) = T at *
      simp -implicitDefEqProofs [F__law_all_tuples, sem__law_all_tuples, f0', f1', this, bind_run, pure_run, lift_run, ite_run, bad_run, fnOf, runF, argE, seqM, ifM, asT, bin2, bin2v, un1, unL, asF, setM, setIxM, augIxM, augM, retM, giveM, dropM, look, take, put, frz1, ownsAny, owns, store, change, mutM, onL, isB, truM, truP, MC.notM, MC.andM, MC.orM, chain, tupM, lstM, consM, outs, callM, valM, slotM, argSlots, frzS, resolve, ioSlots, setIo, itemsM, itemsOf, PV.flat, isi_int_int, isi_int_bool, isi_int_str, isi_int_tuple, isi_int_list, isi_str_int, isi_str_bool, isi_str_str, isi_str_tuple, isi_str_list, isi_tuple_int, isi_tuple_bool, isi_tuple_str, isi_tuple_tuple, isi_tuple_list, isi_list_int, isi_list_bool, isi_list_str, isi_list_tuple, isi_list_list, isi_NoneType_int, isi_NoneType_bool, isi_NoneType_str, isi_NoneType_tuple, isi_NoneType_list, isi_bool_int, isi_bool_bool, isi_bool_str, isi_bool_tuple, isi_bool_list, strM, eqP_bb, neP_bb, andV, orV, notV, slM, slMv, asInt, str_len, addP_ii, addP_ib, addP_ss, addP_ll, addP_tt, iaddP_ii, subP_ii, mulP_ii, mulP_si, fdivP_ii, modP_ii, negP_i, absP_i, intP_i, intP_b, ltP_ii, leP_ii, gtP_ii, geP_ii, ltP_ss, leP_ss, gtP_ss, geP_ss, eqP_ii, eqP_ss, neP_ii, neP_ss, isP_b, isNotP_b, inP_1, notInP_1, lenP_s, lenP_l, lenP_t, lenP_q, listP_s, listP_l, listP_t, tupleP_l, tupleP_t, ixP_l, ixP_t, ixP_q, ixP_s, atI_nat, atI_2, atI_3, atI_4, atI_0, atI_1, atI_last, setV_l, getV_l, ixN_nat, ixN_2, ixN_3, ixN_4, ixN_0, ixN_1, popP_n, appendP_1, extendP_l, slP_to, slP_from, slP_tto, slP_tfrom, slP_lto, slP_lfrom, MC.when, fl, e]
  | succ k =>
    have c0 : ifM (asT (bin2v 1 (pure (.int 0)) eqP)) (retM (ifM (asT (bin2v 2 (pure (.int 0)) eqP)) (lstM (consM (asF (tupM (pure []))) (pure []))) (lstM (pure [])))) (pure .nx) [some (false, S A), some (false, .int (k + 1 : Nat)), some (false, .int t), none, none, none, none] = some (.nx, [some (false, S A), some (false, .int (k + 1 : Nat)), some (false, .int t), none, none, none, none]) := by
      refine if_f (ρ' := [some (false, S A), some (false, .int (k + 1 : Nat)), some (false, .int t), none, none, none, none]) ?_ rfl
      have : ¬ ((k + 1 : Nat) : Int) = 0 := by omega
      generalize ((k + 1 : Nat) : Int) = M at *
      simp -implicitDefEqProofs [this, bind_run, pure_run, lift_run, ite_run, bad_run, fnOf, runF, argE, seqM, ifM, asT, bin2, bin2v, un1, unL, asF, setM, setIxM, augIxM, augM, retM, giveM, dropM, look, take, put, frz1, ownsAny, owns, store, change, mutM, onL, isB, truM, truP, MC.notM, MC.andM, MC.orM, chain, tupM, lstM, consM, outs, callM, valM, slotM, argSlots, frzS, resolve, ioSlots, setIo, itemsM, itemsOf, PV.flat, isi_int_int, isi_int_bool, isi_int_str, isi_int_tuple, isi_int_list, isi_str_int, isi_str_bool, isi_str_str, isi_str_tuple, isi_str_list, isi_tuple_int, isi_tuple_bool, isi_tuple_str, isi_tuple_tuple, isi_tuple_list, isi_list_int, isi_list_bool, isi_list_str, isi_list_tuple, isi_list_list, isi_NoneType_int, isi_NoneType_bool, isi_NoneType_str, isi_NoneType_tuple, isi_NoneType_list, isi_bool_int, isi_bool_bool, isi_bool_str, isi_bool_tuple, isi_bool_list, strM, eqP_bb, neP_bb, andV, orV, notV, slM, slMv, asInt, str_len, addP_ii, addP_ib, addP_ss, addP_ll, addP_tt, iaddP_ii, subP_ii, mulP_ii, mulP_si, fdivP_ii, modP_ii, negP_i, absP_i, intP_i, intP_b, ltP_ii, leP_ii, gtP_ii, geP_ii, ltP_ss, leP_ss, gtP_ss, geP_ss, eqP_ii, eqP_ss, neP_ii, neP_ss, isP_b, isNotP_b, inP_1, notInP_1, lenP_s, lenP_l, lenP_t, lenP_q, listP_s, listP_l, listP_t, tupleP_l, tupleP_t, ixP_l, ixP_t, ixP_q, ixP_s, atI_nat, atI_2, atI_3, atI_4, atI_0, atI_1, atI_last, setV_l, getV_l, ixN_nat, ixN_2, ixN_3, ixN_4, ixN_0, ixN_1, popP_n, appendP_1, extendP_l, slP_to, slP_from, slP_tto, slP_tfrom, slP_lto, slP_lfrom, MC.when, fl]
    have k1 := set_run (i := 3) (at_lc (x3 := none) (x4 := none) (x5 := none) B)
    have k2 : setM 4 (lstM (pure [])) [some (false, S A), some (false, .int (k + 1 : Nat)), some (false, .int t), some (true, .lst ((wl A t).map S)), none, none, none] = some (.nx, [some (false, S A), some (false, .int (k + 1 : Nat)), some (false, .int t), some (true, .lst ((wl A t).map S)), some (true, .lst []), none, none]) := by
      generalize (wl A t).map S = Z
      simp -implicitDefEqProofs [f0', bind_run, pure_run, lift_run, ite_run, bad_run, fnOf, runF, argE, seqM, ifM, asT, bin2, bin2v, un1, unL, asF, setM, setIxM, augIxM, augM, retM, giveM, dropM, look, take, put, frz1, ownsAny, owns, store, change, mutM, onL, isB, truM, truP, MC.notM, MC.andM, MC.orM, chain, tupM, lstM, consM, outs, callM, valM, slotM, argSlots, frzS, resolve, ioSlots, setIo, itemsM, itemsOf, PV.flat, isi_int_int, isi_int_bool, isi_int_str, isi_int_tuple, isi_int_list, isi_str_int, isi_str_bool, isi_str_str, isi_str_tuple, isi_str_list, isi_tuple_int, isi_tuple_bool, isi_tuple_str, isi_tuple_tuple, isi_tuple_list, isi_list_int, isi_list_bool, isi_list_str, isi_list_tuple, isi_list_list, isi_NoneType_int, isi_NoneType_bool, isi_NoneType_str, isi_NoneType_tuple, isi_NoneType_list, isi_bool_int, isi_bool_bool, isi_bool_str, isi_bool_tuple, isi_bool_list, strM, eqP_bb, neP_bb, andV, orV, notV, slM, slMv, asInt, str_len, addP_ii, addP_ib, addP_ss, addP_ll, addP_tt, iaddP_ii, subP_ii, mulP_ii, mulP_si, fdivP_ii, modP_ii, negP_i, absP_i, intP_i, intP_b, ltP_ii, leP_ii, gtP_ii, geP_ii, ltP_ss, leP_ss, gtP_ss, geP_ss, eqP_ii, eqP_ss, neP_ii, neP_ss, isP_b, isNotP_b, inP_1, notInP_1, lenP_s, lenP_l, lenP_t, lenP_q, listP_s, listP_l, listP_t, tupleP_l, tupleP_t, ixP_l, ixP_t, ixP_q, ixP_s, atI_nat, atI_2, atI_3, atI_4, atI_0, atI_1, atI_last, setV_l, getV_l, ixN_nat, ixN_2, ixN_3, ixN_4, ixN_0, ixN_1, popP_n, appendP_1, extendP_l, slP_to, slP_from, slP_tto, slP_tfrom, slP_lto, slP_lfrom, MC.when, fl]
    have hlen : (fdl A t k).length ≤ 1000 := by
      rw [(fdl_perm B.s t k).length_eq]
      exact B.b.bn (k + 1) t (Nat.le_refl _) (Nat.le_refl _)
    obtain ⟨bc, hc⟩ := cuts_ok (s := t) (m := k) (by omega) (by omega) (fun j hj => B.c j (by omega))
    obtain ⟨ρ', h1, b, x5, x6, rfl⟩ := forM_pre (h := put 5 false) (f := bd2__law_all_tuples) TN (fun pre ρ => ∃ b x5 x6, ρ = [some (false, S A), some (false, .int (k + 1 : Nat)), some (false, .int t), some (b, .lst ((wl A t).map S)), some (true, .lst ((pre.flatMap fun row => (wl A t).map fun w => cutw w 0 row).map TU)), x5, x6]) (cu t k) (ρ := [some (false, S A), some (false, .int (k + 1 : Nat)), some (false, .int t), some (true, .lst ((wl A t).map S)), some (true, .lst []), none, none]) ⟨true, none, none, rfl⟩ (by
      rintro pre row post _ e ⟨b, x5, x6, rfl⟩
      have hl := (cu_mem.mp (show row ∈ cu t k by rw [e]; simp)).1
      have hb := hlen
      unfold fdl at hb
      rw [e, List.flatMap_append, List.length_append] at hb
      obtain ⟨y6, h⟩ := at_bd2 (A := A) (m := k + 1) (t := t) (acc := pre.flatMap fun row => (wl A t).map fun w => cutw w 0 row) (row := row) (x6 := x6) (by omega) (by omega) (by have := B.b.bw t (Nat.le_refl _); omega) b
      refine ⟨_, bind_of rfl h, false, some (false, TN row), y6, ?_⟩
      unfold At
      rw [List.flatMap_append]; simp)
    have k3 : fo2__law_all_tuples [some (false, S A), some (false, .int (k + 1 : Nat)), some (false, .int t), some (true, .lst ((wl A t).map S)), some (true, .lst []), none, none] = some (.nx, [some (false, S A), some (false, .int (k + 1 : Nat)), some (false, .int t), some (b, .lst ((wl A t).map S)), some (true, .lst ((fdl A t k).map TU)), x5, x6]) := by
      unfold fo2__law_all_tuples
      refine bind_of (a := (cu t k).map TN) (ρ' := [some (false, S A), some (false, .int (k + 1 : Nat)), some (false, .int t), some (true, .lst ((wl A t).map S)), some (true, .lst []), none, none]) ?_ h1
      generalize (cu t k).map TN = Z at *
      generalize (wl A t).map S = Z2 at *
      generalize ((k + 1 : Nat) : Int) = M at *
      simp -implicitDefEqProofs [hc, bind_run, pure_run, lift_run, ite_run, bad_run, fnOf, runF, argE, seqM, ifM, asT, bin2, bin2v, un1, unL, asF, setM, setIxM, augIxM, augM, retM, giveM, dropM, look, take, put, frz1, ownsAny, owns, store, change, mutM, onL, isB, truM, truP, MC.notM, MC.andM, MC.orM, chain, tupM, lstM, consM, outs, callM, valM, slotM, argSlots, frzS, resolve, ioSlots, setIo, itemsM, itemsOf, PV.flat, isi_int_int, isi_int_bool, isi_int_str, isi_int_tuple, isi_int_list, isi_str_int, isi_str_bool, isi_str_str, isi_str_tuple, isi_str_list, isi_tuple_int, isi_tuple_bool, isi_tuple_str, isi_tuple_tuple, isi_tuple_list, isi_list_int, isi_list_bool, isi_list_str, isi_list_tuple, isi_list_list, isi_NoneType_int, isi_NoneType_bool, isi_NoneType_str, isi_NoneType_tuple, isi_NoneType_list, isi_bool_int, isi_bool_bool, isi_bool_str, isi_bool_tuple, isi_bool_list, strM, eqP_bb, neP_bb, andV, orV, notV, slM, slMv, asInt, str_len, addP_ii, addP_ib, addP_ss, addP_ll, addP_tt, iaddP_ii, subP_ii, mulP_ii, mulP_si, fdivP_ii, modP_ii, negP_i, absP_i, intP_i, intP_b, ltP_ii, leP_ii, gtP_ii, geP_ii, ltP_ss, leP_ss, gtP_ss, geP_ss, eqP_ii, eqP_ss, neP_ii, neP_ss, isP_b, isNotP_b, inP_1, notInP_1, lenP_s, lenP_l, lenP_t, lenP_q, listP_s, listP_l, listP_t, tupleP_l, tupleP_t, ixP_l, ixP_t, ixP_q, ixP_s, atI_nat, atI_2, atI_3, atI_4, atI_0, atI_1, atI_last, setV_l, getV_l, ixN_nat, ixN_2, ixN_3, ixN_4, ixN_0, ixN_1, popP_n, appendP_1, extendP_l, slP_to, slP_from, slP_tto, slP_tfrom, slP_lto, slP_lfrom, MC.when, fl]
    have k4 : retM (un1 (look 4) (sortKeyP F__law_order)) [some (false, S A), some (false, .int (k + 1 : Nat)), some (false, .int t), some (b, .lst ((wl A t).map S)), some (true, .lst ((fdl A t k).map TU)), x5, x6] = some (.rt (true, .lst ((tw A (k + 1) t).map TU)), [some (false, S A), some (false, .int (k + 1 : Nat)), some (false, .int t), some (b, .lst ((wl A t).map S)), some (true, .lst ((fdl A t k).map TU)), x5, x6]) := by
      have h := sort_order (l := fdl A t k) (fun ws h => tw_fine B ws ((fdl_perm B.s t k).mem_iff.mp h)) (by omega)
      rw [srt_fdl B.s] at h
      generalize (fdl A t k).map TU = Z at *
      generalize (wl A t).map S = Z2 at *
      generalize (tw A (k + 1) t).map TU = Z3 at *
      simp -implicitDefEqProofs [h, bind_run, pure_run, lift_run, ite_run, bad_run, fnOf, runF, argE, seqM, ifM, asT, bin2, bin2v, un1, unL, asF, setM, setIxM, augIxM, augM, retM, giveM, dropM, look, take, put, frz1, ownsAny, owns, store, change, mutM, onL, isB, truM, truP, MC.notM, MC.andM, MC.orM, chain, tupM, lstM, consM, outs, callM, valM, slotM, argSlots, frzS, resolve, ioSlots, setIo, itemsM, itemsOf, PV.flat, isi_int_int, isi_int_bool, isi_int_str, isi_int_tuple, isi_int_list, isi_str_int, isi_str_bool, isi_str_str, isi_str_tuple, isi_str_list, isi_tuple_int, isi_tuple_bool, isi_tuple_str, isi_tuple_tuple, isi_tuple_list, isi_list_int, isi_list_bool, isi_list_str, isi_list_tuple, isi_list_list, isi_NoneType_int, isi_NoneType_bool, isi_NoneType_str, isi_NoneType_tuple, isi_NoneType_list, isi_bool_int, isi_bool_bool, isi_bool_str, isi_bool_tuple, isi_bool_list, strM, eqP_bb, neP_bb, andV, orV, notV, slM, slMv, asInt, str_len, addP_ii, addP_ib, addP_ss, addP_ll, addP_tt, iaddP_ii, subP_ii, mulP_ii, mulP_si, fdivP_ii, modP_ii, negP_i, absP_i, intP_i, intP_b, ltP_ii, leP_ii, gtP_ii, geP_ii, ltP_ss, leP_ss, gtP_ss, geP_ss, eqP_ii, eqP_ss, neP_ii, neP_ss, isP_b, isNotP_b, inP_1, notInP_1, lenP_s, lenP_l, lenP_t, lenP_q, listP_s, listP_l, listP_t, tupleP_l, tupleP_t, ixP_l, ixP_t, ixP_q, ixP_s, atI_nat, atI_2, atI_3, atI_4, atI_0, atI_1, atI_last, setV_l, getV_l, ixN_nat, ixN_2, ixN_3, ixN_4, ixN_0, ixN_1, popP_n, appendP_1, extendP_l, slP_to, slP_from, slP_tto, slP_tfrom, slP_lto, slP_lfrom, MC.when, fl]
    exact fn_run rfl rfl (seq_nx c0 (seq_nx k1 (seq_nx k2 (seq_nx k3 k4)))) rfl
end MC.Law
set_option Elab.async false
set_option linter.all false
set_option maxRecDepth 100000
set_option maxHeartbeats 4000000
/-! the lists of word_tuples stand; sorting stands -/
namespace MC.Law
open PySem PySem.W
theorem neS {k : Nat} {x : PV} (h : TV k x) (hk : k ≤ 60) : neP x x = some (false, .bl false) := by
  rw [neP_TV h h (by omega) (by omega), eqPV_self h]; rfl
theorem at_tu {l : List (List Wd)} {i : Nat} {ws : List Wd} (h : l[i]? = some ws) : ixP (.lst (l.map TU)) (.int i) = some (false, TU ws) := by
  rw [ixP_l, atI_nat, List.getElem?_map, h]; rfl
theorem ret_lc {x0 x1 : Option (Bool × PV)} {i : Int} {L : List PV} {ws : List Wd} (hi : ixP (.lst L) (.int i) = some (false, TU ws)) (hn : ws.length ≤ 1000) :
    lc1__law_are_tuples [some (false, .lst L), x1, some (false, .int i), none] = some ((true, .lst (ws.map fun _ => .bl true)), [some (false, .lst L), x1, some (false, .int i), none]) := by
  unfold lc1__law_are_tuples
  refine lcM_img (ρ1 := [some (false, .lst L), x1, some (false, .int i), none]) S (fun _ => .bl true) ?_ rfl rfl (fun w hm => ⟨[some (false, .lst L), x1, some (false, .int i), some (false, S w)], ?_, [some (false, .lst L), x1, some (false, .int i), some (false, S w)], ?_, rfl⟩) (by omega)
  · simp -implicitDefEqProofs [hi, bind_run, pure_run, lift_run, ite_run, bad_run, fnOf, runF, argE, seqM, ifM, asT, bin2, bin2v, un1, unL, asF, setM, setIxM, augIxM, augM, retM, giveM, dropM, look, take, put, frz1, ownsAny, owns, store, change, mutM, onL, isB, truM, truP, MC.notM, MC.andM, MC.orM, chain, tupM, lstM, consM, outs, callM, valM, slotM, argSlots, frzS, resolve, ioSlots, setIo, itemsM, itemsOf, PV.flat, isi_int_int, isi_int_bool, isi_int_str, isi_int_tuple, isi_int_list, isi_str_int, isi_str_bool, isi_str_str, isi_str_tuple, isi_str_list, isi_tuple_int, isi_tuple_bool, isi_tuple_str, isi_tuple_tuple, isi_tuple_list, isi_list_int, isi_list_bool, isi_list_str, isi_list_tuple, isi_list_list, isi_NoneType_int, isi_NoneType_bool, isi_NoneType_str, isi_NoneType_tuple, isi_NoneType_list, isi_bool_int, isi_bool_bool, isi_bool_str, isi_bool_tuple, isi_bool_list, strM, eqP_bb, neP_bb, andV, orV, notV, slM, slMv, asInt, str_len, addP_ii, addP_ib, addP_ss, addP_ll, addP_tt, iaddP_ii, subP_ii, mulP_ii, mulP_si, fdivP_ii, modP_ii, negP_i, absP_i, intP_i, intP_b, ltP_ii, leP_ii, gtP_ii, geP_ii, ltP_ss, leP_ss, gtP_ss, geP_ss, eqP_ii, eqP_ss, neP_ii, neP_ss, isP_b, isNotP_b, inP_1, notInP_1, lenP_s, lenP_l, lenP_t, lenP_q, listP_s, listP_l, listP_t, tupleP_l, tupleP_t, ixP_l, ixP_t, ixP_q, ixP_s, atI_nat, atI_2, atI_3, atI_4, atI_0, atI_1, atI_last, setV_l, getV_l, ixN_nat, ixN_2, ixN_3, ixN_4, ixN_0, ixN_1, popP_n, appendP_1, extendP_l, slP_to, slP_from, slP_tto, slP_tfrom, slP_lto, slP_lfrom, MC.when, fl]
  · simp -implicitDefEqProofs [bind_run, pure_run, lift_run, ite_run, bad_run, fnOf, runF, argE, seqM, ifM, asT, bin2, bin2v, un1, unL, asF, setM, setIxM, augIxM, augM, retM, giveM, dropM, look, take, put, frz1, ownsAny, owns, store, change, mutM, onL, isB, truM, truP, MC.notM, MC.andM, MC.orM, chain, tupM, lstM, consM, outs, callM, valM, slotM, argSlots, frzS, resolve, ioSlots, setIo, itemsM, itemsOf, PV.flat, isi_int_int, isi_int_bool, isi_int_str, isi_int_tuple, isi_int_list, isi_str_int, isi_str_bool, isi_str_str, isi_str_tuple, isi_str_list, isi_tuple_int, isi_tuple_bool, isi_tuple_str, isi_tuple_tuple, isi_tuple_list, isi_list_int, isi_list_bool, isi_list_str, isi_list_tuple, isi_list_list, isi_NoneType_int, isi_NoneType_bool, isi_NoneType_str, isi_NoneType_tuple, isi_NoneType_list, isi_bool_int, isi_bool_bool, isi_bool_str, isi_bool_tuple, isi_bool_list, strM, eqP_bb, neP_bb, andV, orV, notV, slM, slMv, asInt, str_len, addP_ii, addP_ib, addP_ss, addP_ll, addP_tt, iaddP_ii, subP_ii, mulP_ii, mulP_si, fdivP_ii, modP_ii, negP_i, absP_i, intP_i, intP_b, ltP_ii, leP_ii, gtP_ii, geP_ii, ltP_ss, leP_ss, gtP_ss, geP_ss, eqP_ii, eqP_ss, neP_ii, neP_ss, isP_b, isNotP_b, inP_1, notInP_1, lenP_s, lenP_l, lenP_t, lenP_q, listP_s, listP_l, listP_t, tupleP_l, tupleP_t, ixP_l, ixP_t, ixP_q, ixP_s, atI_nat, atI_2, atI_3, atI_4, atI_0, atI_1, atI_last, setV_l, getV_l, ixN_nat, ixN_2, ixN_3, ixN_4, ixN_0, ixN_1, popP_n, appendP_1, extendP_l, slP_to, slP_from, slP_tto, slP_tfrom, slP_lto, slP_lfrom, MC.when, fl]
  · simp -implicitDefEqProofs [bind_run, pure_run, lift_run, ite_run, bad_run, fnOf, runF, argE, seqM, ifM, asT, bin2, bin2v, un1, unL, asF, setM, setIxM, augIxM, augM, retM, giveM, dropM, look, take, put, frz1, ownsAny, owns, store, change, mutM, onL, isB, truM, truP, MC.notM, MC.andM, MC.orM, chain, tupM, lstM, consM, outs, callM, valM, slotM, argSlots, frzS, resolve, ioSlots, setIo, itemsM, itemsOf, PV.flat, isi_int_int, isi_int_bool, isi_int_str, isi_int_tuple, isi_int_list, isi_str_int, isi_str_bool, isi_str_str, isi_str_tuple, isi_str_list, isi_tuple_int, isi_tuple_bool, isi_tuple_str, isi_tuple_tuple, isi_tuple_list, isi_list_int, isi_list_bool, isi_list_str, isi_list_tuple, isi_list_list, isi_NoneType_int, isi_NoneType_bool, isi_NoneType_str, isi_NoneType_tuple, isi_NoneType_list, isi_bool_int, isi_bool_bool, isi_bool_str, isi_bool_tuple, isi_bool_list, strM, eqP_bb, neP_bb, andV, orV, notV, slM, slMv, asInt, str_len, addP_ii, addP_ib, addP_ss, addP_ll, addP_tt, iaddP_ii, subP_ii, mulP_ii, mulP_si, fdivP_ii, modP_ii, negP_i, absP_i, intP_i, intP_b, ltP_ii, leP_ii, gtP_ii, geP_ii, ltP_ss, leP_ss, gtP_ss, geP_ss, eqP_ii, eqP_ss, neP_ii, neP_ss, isP_b, isNotP_b, inP_1, notInP_1, lenP_s, lenP_l, lenP_t, lenP_q, listP_s, listP_l, listP_t, tupleP_l, tupleP_t, ixP_l, ixP_t, ixP_q, ixP_s, atI_nat, atI_2, atI_3, atI_4, atI_0, atI_1, atI_last, setV_l, getV_l, ixN_nat, ixN_2, ixN_3, ixN_4, ixN_0, ixN_1, popP_n, appendP_1, extendP_l, slP_to, slP_from, slP_tto, slP_tfrom, slP_lto, slP_lfrom, MC.when, fl]
theorem all_true {α : Type} (l : List α) : allP (.lst (l.map fun _ => .bl true)) = some (false, .bl true) := by
  rw [allP_map (fun _ => true)]
  congr 3
  exact List.all_eq_true.mpr fun _ _ => rfl
theorem are_bd {l : List (List Wd)} {i : Nat} {ws : List Wd} (h : l[i]? = some ws) (f : Fine ws) :
    bd1__law_are_tuples [some (false, .lst (l.map TU)), some (false, .lst (l.map TU)), some (false, .int i), none] = some (.nx, [some (false, .lst (l.map TU)), some (false, .lst (l.map TU)), some (false, .int i), none]) := by
  have h1 := at_tu h
  have h2 := ret_lc (x0 := none) (x1 := some (false, .lst (l.map TU))) h1 f.n
  have h3 := all_true ws
  have h4 := neS (tu_tv f) (by omega)
  have h5 : isiM "tuple" (TU ws) = some (false, .bl true) := isi_tuple_tuple _
  generalize (ws.map fun _ => PV.bl true) = Z3 at *
  generalize TU ws = Z2 at *
  generalize l.map TU = Z1 at *
  generalize (i : Int) = I at *
  simp -implicitDefEqProofs [bd1__law_are_tuples, h1, h2, h3, h4, h5, bind_run, pure_run, lift_run, ite_run, bad_run, fnOf, runF, argE, seqM, ifM, asT, bin2, bin2v, un1, unL, asF, setM, setIxM, augIxM, augM, retM, giveM, dropM, look, take, put, frz1, ownsAny, owns, store, change, mutM, onL, isB, truM, truP, MC.notM, MC.andM, MC.orM, chain, tupM, lstM, consM, outs, callM, valM, slotM, argSlots, frzS, resolve, ioSlots, setIo, itemsM, itemsOf, PV.flat, isi_int_int, isi_int_bool, isi_int_str, isi_int_tuple, isi_int_list, isi_str_int, isi_str_bool, isi_str_str, isi_str_tuple, isi_str_list, isi_tuple_int, isi_tuple_bool, isi_tuple_str, isi_tuple_tuple, isi_tuple_list, isi_list_int, isi_list_bool, isi_list_str, isi_list_tuple, isi_list_list, isi_NoneType_int, isi_NoneType_bool, isi_NoneType_str, isi_NoneType_tuple, isi_NoneType_list, isi_bool_int, isi_bool_bool, isi_bool_str, isi_bool_tuple, isi_bool_list, strM, eqP_bb, neP_bb, andV, orV, notV, slM, slMv, asInt, str_len, addP_ii, addP_ib, addP_ss, addP_ll, addP_tt, iaddP_ii, subP_ii, mulP_ii, mulP_si, fdivP_ii, modP_ii, negP_i, absP_i, intP_i, intP_b, ltP_ii, leP_ii, gtP_ii, geP_ii, ltP_ss, leP_ss, gtP_ss, geP_ss, eqP_ii, eqP_ss, neP_ii, neP_ss, isP_b, isNotP_b, inP_1, notInP_1, lenP_s, lenP_l, lenP_t, lenP_q, listP_s, listP_l, listP_t, tupleP_l, tupleP_t, ixP_l, ixP_t, ixP_q, ixP_s, atI_nat, atI_2, atI_3, atI_4, atI_0, atI_1, atI_last, setV_l, getV_l, ixN_nat, ixN_2, ixN_3, ixN_4, ixN_0, ixN_1, popP_n, appendP_1, extendP_l, slP_to, slP_from, slP_tto, slP_tfrom, slP_lto, slP_lfrom, MC.when, fl]
theorem are_ok {l : List (List Wd)} (h : ∀ ws ∈ l, Fine ws) (hn : l.length ≤ 100000) : F__law_are_tuples [.lst (l.map TU), .lst (l.map TU)] = some ((false, .bl true), []) := by
  obtain ⟨ρ', h1, x2, rfl⟩ := forM_inv (h := put 2 false) (f := bd1__law_are_tuples) (fun i ρ => ∃ x2, ρ = [some (false, .lst (l.map TU)), some (false, .lst (l.map TU)), x2, none]) (rangeL 0 l.length) 0 [some (false, .lst (l.map TU)), some (false, .lst (l.map TU)), none, none] ⟨none, rfl⟩ (by
    rintro i x _ hx ⟨x2, rfl⟩
    obtain ⟨hi, rfl⟩ := range_get hx
    have e := List.getElem?_eq_getElem hi
    exact ⟨_, .inl (bind_of rfl (are_bd e (h _ (List.getElem_mem hi)))), some (false, .int i), rfl⟩)
  have hl : lenP (.lst (l.map TU)) = some (false, .int l.length) := by rw [lenP_l, List.length_map]
  have k0 : ifM (orM (notM (truM (asF (un1 (look 0) (isiM "list"))))) (asT (bin2 (asF (un1 (look 0) lenP)) (asF (un1 (look 1) lenP)) neP))) (retM ((pure (.bl false)) >>= fun v => pure (false, v))) (pure .nx) [some (false, .lst (l.map TU)), some (false, .lst (l.map TU)), none, none] = some (.nx, [some (false, .lst (l.map TU)), some (false, .lst (l.map TU)), none, none]) := by
    have h5 : isiM "list" (.lst (l.map TU)) = some (false, .bl true) := isi_list_list _
    generalize PV.lst (l.map TU) = Z1 at *
    generalize (l.length : Int) = N at *
    simp -implicitDefEqProofs [hl, h5, bind_run, pure_run, lift_run, ite_run, bad_run, fnOf, runF, argE, seqM, ifM, asT, bin2, bin2v, un1, unL, asF, setM, setIxM, augIxM, augM, retM, giveM, dropM, look, take, put, frz1, ownsAny, owns, store, change, mutM, onL, isB, truM, truP, MC.notM, MC.andM, MC.orM, chain, tupM, lstM, consM, outs, callM, valM, slotM, argSlots, frzS, resolve, ioSlots, setIo, itemsM, itemsOf, PV.flat, isi_int_int, isi_int_bool, isi_int_str, isi_int_tuple, isi_int_list, isi_str_int, isi_str_bool, isi_str_str, isi_str_tuple, isi_str_list, isi_tuple_int, isi_tuple_bool, isi_tuple_str, isi_tuple_tuple, isi_tuple_list, isi_list_int, isi_list_bool, isi_list_str, isi_list_tuple, isi_list_list, isi_NoneType_int, isi_NoneType_bool, isi_NoneType_str, isi_NoneType_tuple, isi_NoneType_list, isi_bool_int, isi_bool_bool, isi_bool_str, isi_bool_tuple, isi_bool_list, strM, eqP_bb, neP_bb, andV, orV, notV, slM, slMv, asInt, str_len, addP_ii, addP_ib, addP_ss, addP_ll, addP_tt, iaddP_ii, subP_ii, mulP_ii, mulP_si, fdivP_ii, modP_ii, negP_i, absP_i, intP_i, intP_b, ltP_ii, leP_ii, gtP_ii, geP_ii, ltP_ss, leP_ss, gtP_ss, geP_ss, eqP_ii, eqP_ss, neP_ii, neP_ss, isP_b, isNotP_b, inP_1, notInP_1, lenP_s, lenP_l, lenP_t, lenP_q, listP_s, listP_l, listP_t, tupleP_l, tupleP_t, ixP_l, ixP_t, ixP_q, ixP_s, atI_nat, atI_2, atI_3, atI_4, atI_0, atI_1, atI_last, setV_l, getV_l, ixN_nat, ixN_2, ixN_3, ixN_4, ixN_0, ixN_1, popP_n, appendP_1, extendP_l, slP_to, slP_from, slP_tto, slP_tfrom, slP_lto, slP_lfrom, MC.when, fl]
  have k1 : fo1__law_are_tuples [some (false, .lst (l.map TU)), some (false, .lst (l.map TU)), none, none] = some (.nx, [some (false, .lst (l.map TU)), some (false, .lst (l.map TU)), x2, none]) := by
    unfold fo1__law_are_tuples
    refine for_range (n := l.length) (ρ' := [some (false, .lst (l.map TU)), some (false, .lst (l.map TU)), none, none]) ?_ hn h1
    generalize PV.lst (l.map TU) = Z1 at *
    simp -implicitDefEqProofs [hl, bind_run, pure_run, lift_run, ite_run, bad_run, fnOf, runF, argE, seqM, ifM, asT, bin2, bin2v, un1, unL, asF, setM, setIxM, augIxM, augM, retM, giveM, dropM, look, take, put, frz1, ownsAny, owns, store, change, mutM, onL, isB, truM, truP, MC.notM, MC.andM, MC.orM, chain, tupM, lstM, consM, outs, callM, valM, slotM, argSlots, frzS, resolve, ioSlots, setIo, itemsM, itemsOf, PV.flat, isi_int_int, isi_int_bool, isi_int_str, isi_int_tuple, isi_int_list, isi_str_int, isi_str_bool, isi_str_str, isi_str_tuple, isi_str_list, isi_tuple_int, isi_tuple_bool, isi_tuple_str, isi_tuple_tuple, isi_tuple_list, isi_list_int, isi_list_bool, isi_list_str, isi_list_tuple, isi_list_list, isi_NoneType_int, isi_NoneType_bool, isi_NoneType_str, isi_NoneType_tuple, isi_NoneType_list, isi_bool_int, isi_bool_bool, isi_bool_str, isi_bool_tuple, isi_bool_list, strM, eqP_bb, neP_bb, andV, orV, notV, slM, slMv, asInt, str_len, addP_ii, addP_ib, addP_ss, addP_ll, addP_tt, iaddP_ii, subP_ii, mulP_ii, mulP_si, fdivP_ii, modP_ii, negP_i, absP_i, intP_i, intP_b, ltP_ii, leP_ii, gtP_ii, geP_ii, ltP_ss, leP_ss, gtP_ss, geP_ss, eqP_ii, eqP_ss, neP_ii, neP_ss, isP_b, isNotP_b, inP_1, notInP_1, lenP_s, lenP_l, lenP_t, lenP_q, listP_s, listP_l, listP_t, tupleP_l, tupleP_t, ixP_l, ixP_t, ixP_q, ixP_s, atI_nat, atI_2, atI_3, atI_4, atI_0, atI_1, atI_last, setV_l, getV_l, ixN_nat, ixN_2, ixN_3, ixN_4, ixN_0, ixN_1, popP_n, appendP_1, extendP_l, slP_to, slP_from, slP_tto, slP_tfrom, slP_lto, slP_lfrom, MC.when, fl]
  exact fn_run rfl rfl (seq_nx k0 (seq_nx k1 rfl)) rfl
theorem ls_bd {A : List Nat} {m t : Nat} {x4 x5 : Option (Bool × PV)} (B : BA A m t) : ∃ x5', bd1__law_lists_stand [some (false, S A), some (false, .int m), some (false, .int t), some (false, .lst ((tw A m t).map TU)), x4, x5] = some (.nx, [some (false, S A), some (false, .int m), some (false, .int t), some (false, .lst ((tw A m t).map TU)), x4, x5']) := by
  have h1 : F_word_tuples _ = _ := wt_ok (k := 40) (by have := B.b.bm; omega) B.b
  have hl := B.b.bn m t (Nat.le_refl _) (Nat.le_refl _)
  have h2 := are_ok (tw_fine B) (by omega)
  have h3 := appendP_1 (xs := (tw A m t).map TU) (x := PV.tup [.str "spoilt"]) (by rw [List.length_map]; omega)
  have h4 : L2.ixN ((tw A m t).map TU ++ [PV.tup [.str "spoilt"]]).length ((0 : Nat) : Int) = some 0 := by rw [ixN_nat, if_pos (by simp)]
  generalize (tw A m t).map TU = Z at *
  generalize (Z ++ [PV.tup [.str "spoilt"]]) = Z2 at *
  refine ⟨some (true, .lst (Z2.set 0 (.tup []))), ?_⟩
  have h5 : setV (.lst Z2) (.int 0) (.tup []) = some (.lst (Z2.set 0 (.tup []))) := by rw [setV_l]; exact congrArg (Option.map _) h4
  generalize (m : Int) = M at *
  generalize (t : Int) = T at *
  simp -implicitDefEqProofs [bd1__law_lists_stand, h1, h2, h3, h5, f1', f0', bind_run, pure_run, lift_run, ite_run, bad_run, fnOf, runF, argE, seqM, ifM, asT, bin2, bin2v, un1, unL, asF, setM, setIxM, augIxM, augM, retM, giveM, dropM, look, take, put, frz1, ownsAny, owns, store, change, mutM, onL, isB, truM, truP, MC.notM, MC.andM, MC.orM, chain, tupM, lstM, consM, outs, callM, valM, slotM, argSlots, frzS, resolve, ioSlots, setIo, itemsM, itemsOf, PV.flat, isi_int_int, isi_int_bool, isi_int_str, isi_int_tuple, isi_int_list, isi_str_int, isi_str_bool, isi_str_str, isi_str_tuple, isi_str_list, isi_tuple_int, isi_tuple_bool, isi_tuple_str, isi_tuple_tuple, isi_tuple_list, isi_list_int, isi_list_bool, isi_list_str, isi_list_tuple, isi_list_list, isi_NoneType_int, isi_NoneType_bool, isi_NoneType_str, isi_NoneType_tuple, isi_NoneType_list, isi_bool_int, isi_bool_bool, isi_bool_str, isi_bool_tuple, isi_bool_list, strM, eqP_bb, neP_bb, andV, orV, notV, slM, slMv, asInt, str_len, addP_ii, addP_ib, addP_ss, addP_ll, addP_tt, iaddP_ii, subP_ii, mulP_ii, mulP_si, fdivP_ii, modP_ii, negP_i, absP_i, intP_i, intP_b, ltP_ii, leP_ii, gtP_ii, geP_ii, ltP_ss, leP_ss, gtP_ss, geP_ss, eqP_ii, eqP_ss, neP_ii, neP_ss, isP_b, isNotP_b, inP_1, notInP_1, lenP_s, lenP_l, lenP_t, lenP_q, listP_s, listP_l, listP_t, tupleP_l, tupleP_t, ixP_l, ixP_t, ixP_q, ixP_s, atI_nat, atI_2, atI_3, atI_4, atI_0, atI_1, atI_last, setV_l, getV_l, ixN_nat, ixN_2, ixN_3, ixN_4, ixN_0, ixN_1, popP_n, appendP_1, extendP_l, slP_to, slP_from, slP_tto, slP_tfrom, slP_lto, slP_lfrom, MC.when, fl, -setV_l]
theorem ls_ok {A : List Nat} {m t : Nat} (B : BA A m t) : F__law_lists_stand [S A, .int m, .int t, .lst ((tw A m t).map TU)] = some ((false, .bl true), []) := by
  obtain ⟨ρ', h1, x4, x5, rfl⟩ := forM_inv (h := put 4 false) (f := bd1__law_lists_stand) (fun i ρ => ∃ x4 x5, ρ = [some (false, S A), some (false, .int m), some (false, .int t), some (false, .lst ((tw A m t).map TU)), x4, x5]) (rangeL 0 (2 : Nat)) 0 [some (false, S A), some (false, .int m), some (false, .int t), some (false, .lst ((tw A m t).map TU)), none, none] ⟨none, none, rfl⟩ (by
    rintro i x _ hx ⟨x4, x5, rfl⟩
    obtain ⟨x5', h⟩ := ls_bd (x4 := some (false, x)) (x5 := x5) B
    exact ⟨_, .inl (bind_of rfl h), some (false, x), x5', rfl⟩)
  have k1 : fo1__law_lists_stand [some (false, S A), some (false, .int m), some (false, .int t), some (false, .lst ((tw A m t).map TU)), none, none] = some (.nx, [some (false, S A), some (false, .int m), some (false, .int t), some (false, .lst ((tw A m t).map TU)), x4, x5]) := by
    unfold fo1__law_lists_stand
    exact for_range (n := 2) (ρ' := [some (false, S A), some (false, .int m), some (false, .int t), some (false, .lst ((tw A m t).map TU)), none, none]) rfl (by omega) h1
  exact fn_run rfl rfl (seq_nx k1 rfl) rfl
/-! sorting stands -/
theorem ss_fo1 {d : PV} {l : List (List Wd)} (hd : IsDr d) (h0 : l ≠ []) (hn : l.length ≤ 5000) : ∃ d' l2 x3, fo1__law_sorting_stands [some (true, d), some (false, .lst (l.map TU)), some (true, .lst []), none, none, none] = some (.nx, [some (true, d'), some (false, .lst (l.map TU)), some (true, .lst ((l2 : List (List Wd)).map TU)), x3, none, none]) ∧ IsDr d' ∧ (∀ ws ∈ l2, ws ∈ l) ∧ l2.length ≤ 1000 := by
  obtain ⟨r, d1, e, r0, r1, hd1⟩ := draw_ok hd (many := 24) (by omega) (by omega)
  obtain ⟨n, rfl⟩ := Int.eq_ofNat_of_zero_le r0
  have hne : l.map TU ≠ [] := fun z => h0 (List.map_eq_nil_iff.mp z)
  obtain ⟨ρ', h1, d', l2, x3, rfl, hd', hl2, len2⟩ := forM_inv (h := put 3 false) (f := bd1__law_sorting_stands) (fun i ρ => ∃ d' l2 x3, ρ = [some (true, d'), some (false, .lst (l.map TU)), some (true, .lst ((l2 : List (List Wd)).map TU)), x3, none, none] ∧ IsDr d' ∧ (∀ ws ∈ l2, ws ∈ l) ∧ l2.length = i) (rangeL 0 (1 + n : Nat)) 0 [some (true, d1), some (false, .lst (l.map TU)), some (true, .lst []), none, none, none] ⟨d1, [], none, rfl, hd1, by simp, rfl⟩ (by
    rintro i x _ hx ⟨d', l2, x3, rfl, hd', hl2, len2⟩
    obtain ⟨hi, rfl⟩ := range_get hx
    obtain ⟨y, d2, e2, hy, hd2⟩ := pick_l hd' hne (by rw [List.length_map]; omega)
    obtain ⟨ws, hws, rfl⟩ := List.mem_map.mp hy
    have ap := appendP_1 (xs := l2.map TU) (x := TU ws) (by rw [List.length_map]; omega)
    refine ⟨[some (true, d2), some (false, .lst (l.map TU)), some (true, .lst ((l2 ++ [ws]).map TU)), some (false, .int i), none, none], .inl (bind_of (ρ' := [some (true, d'), some (false, .lst (l.map TU)), some (true, .lst (l2.map TU)), some (false, .int i), none, none]) rfl ?_), d2, l2 ++ [ws], _, rfl, hd2, fun z hz => ?_, by rw [List.length_append, len2]; simp⟩
    · rw [show (l2 ++ [ws]).map TU = l2.map TU ++ [TU ws] by rw [List.map_append]; rfl]
      generalize l.map TU = Z at *
      generalize l2.map TU = Z2 at *
      generalize TU ws = Z3 at *
      simp -implicitDefEqProofs [bd1__law_sorting_stands, e2, ap, bind_run, pure_run, lift_run, ite_run, bad_run, fnOf, runF, argE, seqM, ifM, asT, bin2, bin2v, un1, unL, asF, setM, setIxM, augIxM, augM, retM, giveM, dropM, look, take, put, frz1, ownsAny, owns, store, change, mutM, onL, isB, truM, truP, MC.notM, MC.andM, MC.orM, chain, tupM, lstM, consM, outs, callM, valM, slotM, argSlots, frzS, resolve, ioSlots, setIo, itemsM, itemsOf, PV.flat, isi_int_int, isi_int_bool, isi_int_str, isi_int_tuple, isi_int_list, isi_str_int, isi_str_bool, isi_str_str, isi_str_tuple, isi_str_list, isi_tuple_int, isi_tuple_bool, isi_tuple_str, isi_tuple_tuple, isi_tuple_list, isi_list_int, isi_list_bool, isi_list_str, isi_list_tuple, isi_list_list, isi_NoneType_int, isi_NoneType_bool, isi_NoneType_str, isi_NoneType_tuple, isi_NoneType_list, isi_bool_int, isi_bool_bool, isi_bool_str, isi_bool_tuple, isi_bool_list, strM, eqP_bb, neP_bb, andV, orV, notV, slM, slMv, asInt, str_len, addP_ii, addP_ib, addP_ss, addP_ll, addP_tt, iaddP_ii, subP_ii, mulP_ii, mulP_si, fdivP_ii, modP_ii, negP_i, absP_i, intP_i, intP_b, ltP_ii, leP_ii, gtP_ii, geP_ii, ltP_ss, leP_ss, gtP_ss, geP_ss, eqP_ii, eqP_ss, neP_ii, neP_ss, isP_b, isNotP_b, inP_1, notInP_1, lenP_s, lenP_l, lenP_t, lenP_q, listP_s, listP_l, listP_t, tupleP_l, tupleP_t, ixP_l, ixP_t, ixP_q, ixP_s, atI_nat, atI_2, atI_3, atI_4, atI_0, atI_1, atI_last, setV_l, getV_l, ixN_nat, ixN_2, ixN_3, ixN_4, ixN_0, ixN_1, popP_n, appendP_1, extendP_l, slP_to, slP_from, slP_tto, slP_tfrom, slP_lto, slP_lfrom, MC.when, fl]
    · rcases List.mem_append.mp hz with hz | hz
      · exact hl2 z hz
      · rw [List.mem_singleton.mp hz]; exact hws)
  rw [range_len, Nat.zero_add] at len2
  refine ⟨d', l2, x3, ?_, hd', hl2, by omega⟩
  unfold fo1__law_sorting_stands
  refine for_range (n := 1 + n) (ρ' := [some (true, d1), some (false, .lst (l.map TU)), some (true, .lst []), none, none, none]) ?_ (by omega) h1
  have e1 : (1 : Int) + (n : Int) = (1 + n : Nat) := by omega
  generalize ((1 + n : Nat) : Int) = M at *
  generalize (n : Int) = M2 at *
  generalize l.map TU = Z at *
  simp -implicitDefEqProofs [e, e1, bind_run, pure_run, lift_run, ite_run, bad_run, fnOf, runF, argE, seqM, ifM, asT, bin2, bin2v, un1, unL, asF, setM, setIxM, augIxM, augM, retM, giveM, dropM, look, take, put, frz1, ownsAny, owns, store, change, mutM, onL, isB, truM, truP, MC.notM, MC.andM, MC.orM, chain, tupM, lstM, consM, outs, callM, valM, slotM, argSlots, frzS, resolve, ioSlots, setIo, itemsM, itemsOf, PV.flat, isi_int_int, isi_int_bool, isi_int_str, isi_int_tuple, isi_int_list, isi_str_int, isi_str_bool, isi_str_str, isi_str_tuple, isi_str_list, isi_tuple_int, isi_tuple_bool, isi_tuple_str, isi_tuple_tuple, isi_tuple_list, isi_list_int, isi_list_bool, isi_list_str, isi_list_tuple, isi_list_list, isi_NoneType_int, isi_NoneType_bool, isi_NoneType_str, isi_NoneType_tuple, isi_NoneType_list, isi_bool_int, isi_bool_bool, isi_bool_str, isi_bool_tuple, isi_bool_list, strM, eqP_bb, neP_bb, andV, orV, notV, slM, slMv, asInt, str_len, addP_ii, addP_ib, addP_ss, addP_ll, addP_tt, iaddP_ii, subP_ii, mulP_ii, mulP_si, fdivP_ii, modP_ii, negP_i, absP_i, intP_i, intP_b, ltP_ii, leP_ii, gtP_ii, geP_ii, ltP_ss, leP_ss, gtP_ss, geP_ss, eqP_ii, eqP_ss, neP_ii, neP_ss, isP_b, isNotP_b, inP_1, notInP_1, lenP_s, lenP_l, lenP_t, lenP_q, listP_s, listP_l, listP_t, tupleP_l, tupleP_t, ixP_l, ixP_t, ixP_q, ixP_s, atI_nat, atI_2, atI_3, atI_4, atI_0, atI_1, atI_last, setV_l, getV_l, ixN_nat, ixN_2, ixN_3, ixN_4, ixN_0, ixN_1, popP_n, appendP_1, extendP_l, slP_to, slP_from, slP_tto, slP_tfrom, slP_lto, slP_lfrom, MC.when, fl]
theorem tus_tv {l : List (List Wd)} (h : ∀ ws ∈ l, Fine ws) : TV 2 (.lst (l.map TU)) := TV.lst fun y hy => by
  obtain ⟨ws, hw, rfl⟩ := List.mem_map.mp hy
  exact tu_tv (h ws hw)
theorem ss_fo2 {d : PV} {x1 x3 : Option (Bool × PV)} {l : List (List Wd)} (hf : ∀ ws ∈ l, Fine ws) (hn : l.length ≤ 1000) : ∃ x5, fo2__law_sorting_stands [some (true, d), x1, some (true, .lst (l.map TU)), x3, some (true, .lst ((srt l).map TU)), none] = some (.nx, [some (true, d), x1, some (true, .lst (l.map TU)), x3, some (true, .lst ((srt l).map TU)), x5]) := by
  have hs : ∀ ws ∈ srt l, Fine ws := fun ws h => hf ws ((srt_perm l).mem_iff.mp h)
  have f3 : fits 3 = true := fits_of (by decide)
  obtain ⟨ρ', h1, x5, rfl⟩ := forM_pre (h := put 5 false) (f := bd2__law_sorting_stands) (fun l3 : List (List Wd) => .lst (l3.map TU)) (fun pre ρ => ∃ x5, ρ = [some (true, d), x1, some (true, .lst (l.map TU)), x3, some (true, .lst ((srt l).map TU)), x5]) [l, l.reverse, (srt l).reverse] (ρ := [some (true, d), x1, some (true, .lst (l.map TU)), x3, some (true, .lst ((srt l).map TU)), none]) ⟨none, rfl⟩ (by
    rintro pre l3 post _ e ⟨x5, rfl⟩
    have hp : l3.Perm l := by
      have : l3 ∈ [l, l.reverse, (srt l).reverse] := by rw [e]; simp
      rcases List.mem_cons.mp this with rfl | this
      · exact List.Perm.refl _
      · rcases List.mem_cons.mp this with rfl | this
        · exact List.reverse_perm _
        · rw [List.mem_singleton.mp this]; exact (List.reverse_perm _).trans (srt_perm l)
    have hk := sort_model (l := l3) (fun ws h => hf ws (hp.mem_iff.mp h)) (by rw [hp.length_eq]; omega)
    rw [srt_same hp] at hk
    have hne := neS (tus_tv hs) (by omega)
    refine ⟨[some (true, d), x1, some (true, .lst (l.map TU)), x3, some (true, .lst ((srt l).map TU)), some (false, .lst (l3.map TU))], bind_of (ρ' := [some (true, d), x1, some (true, .lst (l.map TU)), x3, some (true, .lst ((srt l).map TU)), some (false, .lst (l3.map TU))]) rfl ?_, _, rfl⟩
    generalize l.map TU = Z at *
    generalize l3.map TU = Z2 at *
    generalize (srt l).map TU = Z3 at *
    simp -implicitDefEqProofs [bd2__law_sorting_stands, hk, hne, bind_run, pure_run, lift_run, ite_run, bad_run, fnOf, runF, argE, seqM, ifM, asT, bin2, bin2v, un1, unL, asF, setM, setIxM, augIxM, augM, retM, giveM, dropM, look, take, put, frz1, ownsAny, owns, store, change, mutM, onL, isB, truM, truP, MC.notM, MC.andM, MC.orM, chain, tupM, lstM, consM, outs, callM, valM, slotM, argSlots, frzS, resolve, ioSlots, setIo, itemsM, itemsOf, PV.flat, isi_int_int, isi_int_bool, isi_int_str, isi_int_tuple, isi_int_list, isi_str_int, isi_str_bool, isi_str_str, isi_str_tuple, isi_str_list, isi_tuple_int, isi_tuple_bool, isi_tuple_str, isi_tuple_tuple, isi_tuple_list, isi_list_int, isi_list_bool, isi_list_str, isi_list_tuple, isi_list_list, isi_NoneType_int, isi_NoneType_bool, isi_NoneType_str, isi_NoneType_tuple, isi_NoneType_list, isi_bool_int, isi_bool_bool, isi_bool_str, isi_bool_tuple, isi_bool_list, strM, eqP_bb, neP_bb, andV, orV, notV, slM, slMv, asInt, str_len, addP_ii, addP_ib, addP_ss, addP_ll, addP_tt, iaddP_ii, subP_ii, mulP_ii, mulP_si, fdivP_ii, modP_ii, negP_i, absP_i, intP_i, intP_b, ltP_ii, leP_ii, gtP_ii, geP_ii, ltP_ss, leP_ss, gtP_ss, geP_ss, eqP_ii, eqP_ss, neP_ii, neP_ss, isP_b, isNotP_b, inP_1, notInP_1, lenP_s, lenP_l, lenP_t, lenP_q, listP_s, listP_l, listP_t, tupleP_l, tupleP_t, ixP_l, ixP_t, ixP_q, ixP_s, atI_nat, atI_2, atI_3, atI_4, atI_0, atI_1, atI_last, setV_l, getV_l, ixN_nat, ixN_2, ixN_3, ixN_4, ixN_0, ixN_1, popP_n, appendP_1, extendP_l, slP_to, slP_from, slP_tto, slP_tfrom, slP_lto, slP_lfrom, MC.when, fl])
  refine ⟨x5, ?_⟩
  unfold fo2__law_sorting_stands
  refine bind_of (a := [l, l.reverse, (srt l).reverse].map fun l3 : List (List Wd) => .lst (l3.map TU)) (ρ' := [some (true, d), x1, some (true, .lst (l.map TU)), x3, some (true, .lst ((srt l).map TU)), none]) ?_ h1
  have e1 : listRevP (.lst (l.map TU)) = some (true, .lst (l.reverse.map TU)) := by rw [List.map_reverse]; rfl
  have e2 : listRevP (.lst ((srt l).map TU)) = some (true, .lst ((srt l).reverse.map TU)) := by rw [List.map_reverse]; rfl
  rw [List.map_cons, List.map_cons, List.map_cons, List.map_nil]
  generalize l.reverse.map TU = Z at *
  generalize (srt l).reverse.map TU = Z2 at *
  generalize l.map TU = Z3 at *
  generalize (srt l).map TU = Z4 at *
  simp -implicitDefEqProofs [e1, e2, f3, bind_run, pure_run, lift_run, ite_run, bad_run, fnOf, runF, argE, seqM, ifM, asT, bin2, bin2v, un1, unL, asF, setM, setIxM, augIxM, augM, retM, giveM, dropM, look, take, put, frz1, ownsAny, owns, store, change, mutM, onL, isB, truM, truP, MC.notM, MC.andM, MC.orM, chain, tupM, lstM, consM, outs, callM, valM, slotM, argSlots, frzS, resolve, ioSlots, setIo, itemsM, itemsOf, PV.flat, isi_int_int, isi_int_bool, isi_int_str, isi_int_tuple, isi_int_list, isi_str_int, isi_str_bool, isi_str_str, isi_str_tuple, isi_str_list, isi_tuple_int, isi_tuple_bool, isi_tuple_str, isi_tuple_tuple, isi_tuple_list, isi_list_int, isi_list_bool, isi_list_str, isi_list_tuple, isi_list_list, isi_NoneType_int, isi_NoneType_bool, isi_NoneType_str, isi_NoneType_tuple, isi_NoneType_list, isi_bool_int, isi_bool_bool, isi_bool_str, isi_bool_tuple, isi_bool_list, strM, eqP_bb, neP_bb, andV, orV, notV, slM, slMv, asInt, str_len, addP_ii, addP_ib, addP_ss, addP_ll, addP_tt, iaddP_ii, subP_ii, mulP_ii, mulP_si, fdivP_ii, modP_ii, negP_i, absP_i, intP_i, intP_b, ltP_ii, leP_ii, gtP_ii, geP_ii, ltP_ss, leP_ss, gtP_ss, geP_ss, eqP_ii, eqP_ss, neP_ii, neP_ss, isP_b, isNotP_b, inP_1, notInP_1, lenP_s, lenP_l, lenP_t, lenP_q, listP_s, listP_l, listP_t, tupleP_l, tupleP_t, ixP_l, ixP_t, ixP_q, ixP_s, atI_nat, atI_2, atI_3, atI_4, atI_0, atI_1, atI_last, setV_l, getV_l, ixN_nat, ixN_2, ixN_3, ixN_4, ixN_0, ixN_1, popP_n, appendP_1, extendP_l, slP_to, slP_from, slP_tto, slP_tfrom, slP_lto, slP_lfrom, MC.when, fl]
theorem ss_ok {d : PV} {l : List (List Wd)} (hd : IsDr d) (hf : ∀ ws ∈ l, Fine ws) (hn : l.length ≤ 5000) : ∃ d', F__law_sorting_stands [d, .lst (l.map TU)] = some ((false, .bl true), [d']) ∧ IsDr d' := by
  by_cases h0 : l = []
  · subst h0
    exact ⟨d, by simp -implicitDefEqProofs [F__law_sorting_stands, sem__law_sorting_stands, bind_run, pure_run, lift_run, ite_run, bad_run, fnOf, runF, argE, seqM, ifM, asT, bin2, bin2v, un1, unL, asF, setM, setIxM, augIxM, augM, retM, giveM, dropM, look, take, put, frz1, ownsAny, owns, store, change, mutM, onL, isB, truM, truP, MC.notM, MC.andM, MC.orM, chain, tupM, lstM, consM, outs, callM, valM, slotM, argSlots, frzS, resolve, ioSlots, setIo, itemsM, itemsOf, PV.flat, isi_int_int, isi_int_bool, isi_int_str, isi_int_tuple, isi_int_list, isi_str_int, isi_str_bool, isi_str_str, isi_str_tuple, isi_str_list, isi_tuple_int, isi_tuple_bool, isi_tuple_str, isi_tuple_tuple, isi_tuple_list, isi_list_int, isi_list_bool, isi_list_str, isi_list_tuple, isi_list_list, isi_NoneType_int, isi_NoneType_bool, isi_NoneType_str, isi_NoneType_tuple, isi_NoneType_list, isi_bool_int, isi_bool_bool, isi_bool_str, isi_bool_tuple, isi_bool_list, strM, eqP_bb, neP_bb, andV, orV, notV, slM, slMv, asInt, str_len, addP_ii, addP_ib, addP_ss, addP_ll, addP_tt, iaddP_ii, subP_ii, mulP_ii, mulP_si, fdivP_ii, modP_ii, negP_i, absP_i, intP_i, intP_b, ltP_ii, leP_ii, gtP_ii, geP_ii, ltP_ss, leP_ss, gtP_ss, geP_ss, eqP_ii, eqP_ss, neP_ii, neP_ss, isP_b, isNotP_b, inP_1, notInP_1, lenP_s, lenP_l, lenP_t, lenP_q, listP_s, listP_l, listP_t, tupleP_l, tupleP_t, ixP_l, ixP_t, ixP_q, ixP_s, atI_nat, atI_2, atI_3, atI_4, atI_0, atI_1, atI_last, setV_l, getV_l, ixN_nat, ixN_2, ixN_3, ixN_4, ixN_0, ixN_1, popP_n, appendP_1, extendP_l, slP_to, slP_from, slP_tto, slP_tfrom, slP_lto, slP_lfrom, MC.when, fl], hd⟩
  · have hne : ¬ (l.length : Int) = 0 := by
      have := List.length_pos_iff.mpr h0
      omega
    have hl : lenP (.lst (l.map TU)) = some (false, .int l.length) := by rw [lenP_l, List.length_map]
    obtain ⟨d', l2, x3, e1, hd', hl2, len2⟩ := ss_fo1 hd h0 hn
    have hf2 : ∀ ws ∈ l2, Fine ws := fun ws h => hf ws (hl2 ws h)
    obtain ⟨x5, e2⟩ := ss_fo2 (d := d') (x1 := some (false, .lst (l.map TU))) (x3 := x3) hf2 len2
    have so := sort_order hf2 (by omega)
    have k0 : ifM (asT (bin2 (asF (un1 (look 1) lenP)) (pure (.int 0)) eqP)) (retM ((pure (.bl true)) >>= fun v => pure (false, v))) (pure .nx) [some (true, d), some (false, .lst (l.map TU)), none, none, none, none] = some (.nx, [some (true, d), some (false, .lst (l.map TU)), none, none, none, none]) := by
      generalize (l.length : Int) = N at *
      generalize PV.lst (l.map TU) = Z at *
      simp -implicitDefEqProofs [hl, hne, bind_run, pure_run, lift_run, ite_run, bad_run, fnOf, runF, argE, seqM, ifM, asT, bin2, bin2v, un1, unL, asF, setM, setIxM, augIxM, augM, retM, giveM, dropM, look, take, put, frz1, ownsAny, owns, store, change, mutM, onL, isB, truM, truP, MC.notM, MC.andM, MC.orM, chain, tupM, lstM, consM, outs, callM, valM, slotM, argSlots, frzS, resolve, ioSlots, setIo, itemsM, itemsOf, PV.flat, isi_int_int, isi_int_bool, isi_int_str, isi_int_tuple, isi_int_list, isi_str_int, isi_str_bool, isi_str_str, isi_str_tuple, isi_str_list, isi_tuple_int, isi_tuple_bool, isi_tuple_str, isi_tuple_tuple, isi_tuple_list, isi_list_int, isi_list_bool, isi_list_str, isi_list_tuple, isi_list_list, isi_NoneType_int, isi_NoneType_bool, isi_NoneType_str, isi_NoneType_tuple, isi_NoneType_list, isi_bool_int, isi_bool_bool, isi_bool_str, isi_bool_tuple, isi_bool_list, strM, eqP_bb, neP_bb, andV, orV, notV, slM, slMv, asInt, str_len, addP_ii, addP_ib, addP_ss, addP_ll, addP_tt, iaddP_ii, subP_ii, mulP_ii, mulP_si, fdivP_ii, modP_ii, negP_i, absP_i, intP_i, intP_b, ltP_ii, leP_ii, gtP_ii, geP_ii, ltP_ss, leP_ss, gtP_ss, geP_ss, eqP_ii, eqP_ss, neP_ii, neP_ss, isP_b, isNotP_b, inP_1, notInP_1, lenP_s, lenP_l, lenP_t, lenP_q, listP_s, listP_l, listP_t, tupleP_l, tupleP_t, ixP_l, ixP_t, ixP_q, ixP_s, atI_nat, atI_2, atI_3, atI_4, atI_0, atI_1, atI_last, setV_l, getV_l, ixN_nat, ixN_2, ixN_3, ixN_4, ixN_0, ixN_1, popP_n, appendP_1, extendP_l, slP_to, slP_from, slP_tto, slP_tfrom, slP_lto, slP_lfrom, MC.when, fl]
    have k1 : setM 2 (lstM (pure [])) [some (true, d), some (false, .lst (l.map TU)), none, none, none, none] = some (.nx, [some (true, d), some (false, .lst (l.map TU)), some (true, .lst []), none, none, none]) := by
      generalize l.map TU = Z at *
      simp -implicitDefEqProofs [f0', bind_run, pure_run, lift_run, ite_run, bad_run, fnOf, runF, argE, seqM, ifM, asT, bin2, bin2v, un1, unL, asF, setM, setIxM, augIxM, augM, retM, giveM, dropM, look, take, put, frz1, ownsAny, owns, store, change, mutM, onL, isB, truM, truP, MC.notM, MC.andM, MC.orM, chain, tupM, lstM, consM, outs, callM, valM, slotM, argSlots, frzS, resolve, ioSlots, setIo, itemsM, itemsOf, PV.flat, isi_int_int, isi_int_bool, isi_int_str, isi_int_tuple, isi_int_list, isi_str_int, isi_str_bool, isi_str_str, isi_str_tuple, isi_str_list, isi_tuple_int, isi_tuple_bool, isi_tuple_str, isi_tuple_tuple, isi_tuple_list, isi_list_int, isi_list_bool, isi_list_str, isi_list_tuple, isi_list_list, isi_NoneType_int, isi_NoneType_bool, isi_NoneType_str, isi_NoneType_tuple, isi_NoneType_list, isi_bool_int, isi_bool_bool, isi_bool_str, isi_bool_tuple, isi_bool_list, strM, eqP_bb, neP_bb, andV, orV, notV, slM, slMv, asInt, str_len, addP_ii, addP_ib, addP_ss, addP_ll, addP_tt, iaddP_ii, subP_ii, mulP_ii, mulP_si, fdivP_ii, modP_ii, negP_i, absP_i, intP_i, intP_b, ltP_ii, leP_ii, gtP_ii, geP_ii, ltP_ss, leP_ss, gtP_ss, geP_ss, eqP_ii, eqP_ss, neP_ii, neP_ss, isP_b, isNotP_b, inP_1, notInP_1, lenP_s, lenP_l, lenP_t, lenP_q, listP_s, listP_l, listP_t, tupleP_l, tupleP_t, ixP_l, ixP_t, ixP_q, ixP_s, atI_nat, atI_2, atI_3, atI_4, atI_0, atI_1, atI_last, setV_l, getV_l, ixN_nat, ixN_2, ixN_3, ixN_4, ixN_0, ixN_1, popP_n, appendP_1, extendP_l, slP_to, slP_from, slP_tto, slP_tfrom, slP_lto, slP_lfrom, MC.when, fl]
    have k2 : setM 4 (un1 (look 2) (sortKeyP F__law_order)) [some (true, d'), some (false, .lst (l.map TU)), some (true, .lst (l2.map TU)), x3, none, none] = some (.nx, [some (true, d'), some (false, .lst (l.map TU)), some (true, .lst (l2.map TU)), x3, some (true, .lst ((srt l2).map TU)), none]) := by
      generalize l.map TU = Z at *
      generalize l2.map TU = Z2 at *
      generalize (srt l2).map TU = Z3 at *
      simp -implicitDefEqProofs [so, bind_run, pure_run, lift_run, ite_run, bad_run, fnOf, runF, argE, seqM, ifM, asT, bin2, bin2v, un1, unL, asF, setM, setIxM, augIxM, augM, retM, giveM, dropM, look, take, put, frz1, ownsAny, owns, store, change, mutM, onL, isB, truM, truP, MC.notM, MC.andM, MC.orM, chain, tupM, lstM, consM, outs, callM, valM, slotM, argSlots, frzS, resolve, ioSlots, setIo, itemsM, itemsOf, PV.flat, isi_int_int, isi_int_bool, isi_int_str, isi_int_tuple, isi_int_list, isi_str_int, isi_str_bool, isi_str_str, isi_str_tuple, isi_str_list, isi_tuple_int, isi_tuple_bool, isi_tuple_str, isi_tuple_tuple, isi_tuple_list, isi_list_int, isi_list_bool, isi_list_str, isi_list_tuple, isi_list_list, isi_NoneType_int, isi_NoneType_bool, isi_NoneType_str, isi_NoneType_tuple, isi_NoneType_list, isi_bool_int, isi_bool_bool, isi_bool_str, isi_bool_tuple, isi_bool_list, strM, eqP_bb, neP_bb, andV, orV, notV, slM, slMv, asInt, str_len, addP_ii, addP_ib, addP_ss, addP_ll, addP_tt, iaddP_ii, subP_ii, mulP_ii, mulP_si, fdivP_ii, modP_ii, negP_i, absP_i, intP_i, intP_b, ltP_ii, leP_ii, gtP_ii, geP_ii, ltP_ss, leP_ss, gtP_ss, geP_ss, eqP_ii, eqP_ss, neP_ii, neP_ss, isP_b, isNotP_b, inP_1, notInP_1, lenP_s, lenP_l, lenP_t, lenP_q, listP_s, listP_l, listP_t, tupleP_l, tupleP_t, ixP_l, ixP_t, ixP_q, ixP_s, atI_nat, atI_2, atI_3, atI_4, atI_0, atI_1, atI_last, setV_l, getV_l, ixN_nat, ixN_2, ixN_3, ixN_4, ixN_0, ixN_1, popP_n, appendP_1, extendP_l, slP_to, slP_from, slP_tto, slP_tfrom, slP_lto, slP_lfrom, MC.when, fl]
    exact ⟨d', fn_run rfl rfl (seq_nx k0 (seq_nx k1 (seq_nx e1 (seq_nx k2 (seq_nx e2 rfl))))) rfl, hd'⟩
end MC.Law
set_option Elab.async false
set_option linter.all false
set_option maxRecDepth 100000
set_option maxHeartbeats 4000000
/-! pairs of words -/
namespace MC.Law
open PySem PySem.W
structure OkW (w : Wd) : Prop where
  n : w.length ≤ 20
  c : ∀ c ∈ w, c ≤ 1000
theorem word_ok {d : PV} {A : List Nat} (hd : IsDr d) (h0 : A ≠ []) (hA : A.length ≤ 10) : ∃ (w : Wd) (d' : PV), F__law_word [d, S A, .int 5] = some ((false, S w), [d']) ∧ IsDr d' ∧ w.length ≤ 5 ∧ ∀ c ∈ w, c ∈ A := by
  have lp : 0 < A.length := List.length_pos_iff.mpr h0
  obtain ⟨r, d1, e, r0, r1, hd1⟩ := draw_ok hd (many := 6) (by omega) (by omega)
  obtain ⟨n, rfl⟩ := Int.eq_ofNat_of_zero_le r0
  obtain ⟨ρ', h1, d', w, x4, rfl, hd', hl, hc⟩ := forM_inv (h := put 4 false) (f := bd1__law_word) (fun i ρ => ∃ (d' : PV) (w : Wd) (x4 : Option (Bool × PV)), ρ = [some (true, d'), some (false, S A), some (false, .int 5), some (false, S w), x4] ∧ IsDr d' ∧ w.length = i ∧ ∀ c ∈ w, c ∈ A) (rangeL 0 (n : Nat)) 0 [some (true, d1), some (false, S A), some (false, .int 5), some (false, S []), none] ⟨d1, [], none, rfl, hd1, rfl, by simp⟩ (by
    rintro i x _ hx ⟨d', w, x4, rfl, hd', hl, hc⟩
    obtain ⟨hi, rfl⟩ := range_get hx
    obtain ⟨r, d2, e2, q0, q1, hd2⟩ := draw_ok hd' (many := A.length) (by omega) (by omega)
    obtain ⟨k, rfl⟩ := Int.eq_ofNat_of_zero_le q0
    have hk : k < A.length := by omega
    refine ⟨[some (true, d2), some (false, S A), some (false, .int 5), some (false, S (w ++ [A[k]])), some (false, .int i)], .inl (bind_of (ρ' := [some (true, d'), some (false, S A), some (false, .int 5), some (false, S w), some (false, .int i)]) rfl ?_), d2, w ++ [A[k]], _, rfl, hd2, by rw [List.length_append, hl]; simp, fun c hm => ?_⟩
    · have hf : fits A.length = true := fits_of (by omega)
      have hl1 := lenP_s hf
      have ad : addP (S w) (S [A[k]]) = some (false, S (w ++ [A[k]])) := addP_ss (fits_of (by simp only [List.length_cons, List.length_nil]; omega))
      have ix : ixP (S A) (.int k) = some (false, S [A[k]]) := by rw [ixP_s hf, atI_nat, List.getElem?_eq_getElem hk]; rfl
      have hl2 : lenP (S A) = some (false, .int A.length) := hl1
      generalize S (w ++ [A[k]]) = Z at *
      generalize S [A[k]] = Z2 at *
      generalize S w = Z4 at *
      generalize S A = Z3 at *
      generalize (A.length : Int) = L at *
      generalize (k : Int) = K at *
      simp -implicitDefEqProofs [bd1__law_word, hl2, e2, ix, ad, bind_run, pure_run, lift_run, ite_run, bad_run, fnOf, runF, argE, seqM, ifM, asT, bin2, bin2v, un1, unL, asF, setM, setIxM, augIxM, augM, retM, giveM, dropM, look, take, put, frz1, ownsAny, owns, store, change, mutM, onL, isB, truM, truP, MC.notM, MC.andM, MC.orM, chain, tupM, lstM, consM, outs, callM, valM, slotM, argSlots, frzS, resolve, ioSlots, setIo, itemsM, itemsOf, PV.flat, isi_int_int, isi_int_bool, isi_int_str, isi_int_tuple, isi_int_list, isi_str_int, isi_str_bool, isi_str_str, isi_str_tuple, isi_str_list, isi_tuple_int, isi_tuple_bool, isi_tuple_str, isi_tuple_tuple, isi_tuple_list, isi_list_int, isi_list_bool, isi_list_str, isi_list_tuple, isi_list_list, isi_NoneType_int, isi_NoneType_bool, isi_NoneType_str, isi_NoneType_tuple, isi_NoneType_list, isi_bool_int, isi_bool_bool, isi_bool_str, isi_bool_tuple, isi_bool_list, strM, eqP_bb, neP_bb, andV, orV, notV, slM, slMv, asInt, str_len, addP_ii, addP_ib, addP_ss, addP_ll, addP_tt, iaddP_ii, subP_ii, mulP_ii, mulP_si, fdivP_ii, modP_ii, negP_i, absP_i, intP_i, intP_b, ltP_ii, leP_ii, gtP_ii, geP_ii, ltP_ss, leP_ss, gtP_ss, geP_ss, eqP_ii, eqP_ss, neP_ii, neP_ss, isP_b, isNotP_b, inP_1, notInP_1, lenP_s, lenP_l, lenP_t, lenP_q, listP_s, listP_l, listP_t, tupleP_l, tupleP_t, ixP_l, ixP_t, ixP_q, ixP_s, atI_nat, atI_2, atI_3, atI_4, atI_0, atI_1, atI_last, setV_l, getV_l, ixN_nat, ixN_2, ixN_3, ixN_4, ixN_0, ixN_1, popP_n, appendP_1, extendP_l, slP_to, slP_from, slP_tto, slP_tfrom, slP_lto, slP_lfrom, MC.when, fl]
    · rcases List.mem_append.mp hm with h | h
      · exact hc c h
      · rw [List.mem_singleton.mp h]; exact List.getElem_mem hk)
  rw [range_len, Nat.zero_add] at hl
  have k1 : setM 3 ((pure (.str "")) >>= fun v => pure (false, v)) [some (true, d), some (false, S A), some (false, .int 5), none, none] = some (.nx, [some (true, d), some (false, S A), some (false, .int 5), some (false, S []), none]) := by
    simp -implicitDefEqProofs [lit_e, bind_run, pure_run, lift_run, ite_run, bad_run, fnOf, runF, argE, seqM, ifM, asT, bin2, bin2v, un1, unL, asF, setM, setIxM, augIxM, augM, retM, giveM, dropM, look, take, put, frz1, ownsAny, owns, store, change, mutM, onL, isB, truM, truP, MC.notM, MC.andM, MC.orM, chain, tupM, lstM, consM, outs, callM, valM, slotM, argSlots, frzS, resolve, ioSlots, setIo, itemsM, itemsOf, PV.flat, isi_int_int, isi_int_bool, isi_int_str, isi_int_tuple, isi_int_list, isi_str_int, isi_str_bool, isi_str_str, isi_str_tuple, isi_str_list, isi_tuple_int, isi_tuple_bool, isi_tuple_str, isi_tuple_tuple, isi_tuple_list, isi_list_int, isi_list_bool, isi_list_str, isi_list_tuple, isi_list_list, isi_NoneType_int, isi_NoneType_bool, isi_NoneType_str, isi_NoneType_tuple, isi_NoneType_list, isi_bool_int, isi_bool_bool, isi_bool_str, isi_bool_tuple, isi_bool_list, strM, eqP_bb, neP_bb, andV, orV, notV, slM, slMv, asInt, str_len, addP_ii, addP_ib, addP_ss, addP_ll, addP_tt, iaddP_ii, subP_ii, mulP_ii, mulP_si, fdivP_ii, modP_ii, negP_i, absP_i, intP_i, intP_b, ltP_ii, leP_ii, gtP_ii, geP_ii, ltP_ss, leP_ss, gtP_ss, geP_ss, eqP_ii, eqP_ss, neP_ii, neP_ss, isP_b, isNotP_b, inP_1, notInP_1, lenP_s, lenP_l, lenP_t, lenP_q, listP_s, listP_l, listP_t, tupleP_l, tupleP_t, ixP_l, ixP_t, ixP_q, ixP_s, atI_nat, atI_2, atI_3, atI_4, atI_0, atI_1, atI_last, setV_l, getV_l, ixN_nat, ixN_2, ixN_3, ixN_4, ixN_0, ixN_1, popP_n, appendP_1, extendP_l, slP_to, slP_from, slP_tto, slP_tfrom, slP_lto, slP_lfrom, MC.when, fl]
  have k2 : fo1__law_word [some (true, d), some (false, S A), some (false, .int 5), some (false, S []), none] = some (.nx, [some (true, d'), some (false, S A), some (false, .int 5), some (false, S w), x4]) := by
    unfold fo1__law_word
    refine for_range (n := n) (ρ' := [some (true, d1), some (false, S A), some (false, .int 5), some (false, S []), none]) ?_ (by omega) h1
    generalize S A = Z3 at *
    generalize (n : Int) = K at *
    simp -implicitDefEqProofs [e, bind_run, pure_run, lift_run, ite_run, bad_run, fnOf, runF, argE, seqM, ifM, asT, bin2, bin2v, un1, unL, asF, setM, setIxM, augIxM, augM, retM, giveM, dropM, look, take, put, frz1, ownsAny, owns, store, change, mutM, onL, isB, truM, truP, MC.notM, MC.andM, MC.orM, chain, tupM, lstM, consM, outs, callM, valM, slotM, argSlots, frzS, resolve, ioSlots, setIo, itemsM, itemsOf, PV.flat, isi_int_int, isi_int_bool, isi_int_str, isi_int_tuple, isi_int_list, isi_str_int, isi_str_bool, isi_str_str, isi_str_tuple, isi_str_list, isi_tuple_int, isi_tuple_bool, isi_tuple_str, isi_tuple_tuple, isi_tuple_list, isi_list_int, isi_list_bool, isi_list_str, isi_list_tuple, isi_list_list, isi_NoneType_int, isi_NoneType_bool, isi_NoneType_str, isi_NoneType_tuple, isi_NoneType_list, isi_bool_int, isi_bool_bool, isi_bool_str, isi_bool_tuple, isi_bool_list, strM, eqP_bb, neP_bb, andV, orV, notV, slM, slMv, asInt, str_len, addP_ii, addP_ib, addP_ss, addP_ll, addP_tt, iaddP_ii, subP_ii, mulP_ii, mulP_si, fdivP_ii, modP_ii, negP_i, absP_i, intP_i, intP_b, ltP_ii, leP_ii, gtP_ii, geP_ii, ltP_ss, leP_ss, gtP_ss, geP_ss, eqP_ii, eqP_ss, neP_ii, neP_ss, isP_b, isNotP_b, inP_1, notInP_1, lenP_s, lenP_l, lenP_t, lenP_q, listP_s, listP_l, listP_t, tupleP_l, tupleP_t, ixP_l, ixP_t, ixP_q, ixP_s, atI_nat, atI_2, atI_3, atI_4, atI_0, atI_1, atI_last, setV_l, getV_l, ixN_nat, ixN_2, ixN_3, ixN_4, ixN_0, ixN_1, popP_n, appendP_1, extendP_l, slP_to, slP_from, slP_tto, slP_tfrom, slP_lto, slP_lfrom, MC.when, fl]
  exact ⟨w, d', fn_run rfl rfl (seq_nx k1 (seq_nx k2 rfl)) rfl, hd', by omega, hc⟩
abbrev PR (p : Wd × Wd) : PV := .tup [S p.1, S p.2]
noncomputable def pif : M Fl := (ifM (asT (bin2v 6 (pure (.int 0)) eqP)) (setM 5 (bin2v 4 (look 5) addP)) (ifM (asT (bin2v 6 (pure (.int 1)) eqP)) (setM 5 ((take 4) >>= fun v => pure (false, v))) (ifM (andM (asT (bin2v 6 (pure (.int 2)) eqP)) (asT (bin2 (asF (un1 (look 4) lenP)) (pure (.int 0)) gtP))) (seqM (setM 7 (callM [0] F__law_draw (slotM 0 (valM (asF (un1 (look 4) lenP)) (pure [])))))
    (setM 5 (bin2 (asF (bin2 (asF (slMv 4 (pure none) (asInt (look 7)) slP)) (asF (callM [0] F__law_pick (slotM 0 (slotM 1 (pure []))))) addP)) (asF (slMv 4 (asInt (asF (bin2v 7 (pure (.int 1)) addP))) (pure none) slP)) addP))) (pure .nx))))
theorem pif_ok {d : PV} {A a b : Wd} {r : Int} {x2 x3 x7 : Option (Bool × PV)} (hd : IsDr d) (h0 : A ≠ []) (hA : A.length ≤ 10) (hc : ∀ c ∈ A, c ≤ 1000) (ha : a.length ≤ 5) (hb : b.length ≤ 5) (ca : ∀ c ∈ a, c ∈ A) (cb : ∀ c ∈ b, c ∈ A) :
    ∃ d' b' x7', pif [some (true, d), some (false, S A), x2, x3, some (false, S a), some (false, S b), some (false, .int r), x7] = some (.nx, [some (true, d'), some (false, S A), x2, x3, some (false, S a), some (false, S b'), some (false, .int r), x7']) ∧ IsDr d' ∧ OkW b' := by
  have oa : OkW a := ⟨by omega, fun c h => hc c (ca c h)⟩
  have ob : OkW b := ⟨by omega, fun c h => hc c (cb c h)⟩
  have hf : fits a.length = true := fits_of (by omega)
  have hl : lenP (S a) = some (false, .int a.length) := lenP_s hf
  by_cases h : r = 0
  · subst h
    have ad : addP (S a) (S b) = some (false, S (a ++ b)) := addP_ss (fits_of (by omega))
    refine ⟨d, a ++ b, x7, ?_, hd, by rw [List.length_append]; omega, fun c h => by
      rcases List.mem_append.mp h with h | h
      · exact oa.c c h
      · exact ob.c c h⟩
    generalize S (a ++ b) = Z at *
    generalize S a = Z2 at *
    generalize S b = Z3 at *
    simp -implicitDefEqProofs [pif, ad, bind_run, pure_run, lift_run, ite_run, bad_run, fnOf, runF, argE, seqM, ifM, asT, bin2, bin2v, un1, unL, asF, setM, setIxM, augIxM, augM, retM, giveM, dropM, look, take, put, frz1, ownsAny, owns, store, change, mutM, onL, isB, truM, truP, MC.notM, MC.andM, MC.orM, chain, tupM, lstM, consM, outs, callM, valM, slotM, argSlots, frzS, resolve, ioSlots, setIo, itemsM, itemsOf, PV.flat, isi_int_int, isi_int_bool, isi_int_str, isi_int_tuple, isi_int_list, isi_str_int, isi_str_bool, isi_str_str, isi_str_tuple, isi_str_list, isi_tuple_int, isi_tuple_bool, isi_tuple_str, isi_tuple_tuple, isi_tuple_list, isi_list_int, isi_list_bool, isi_list_str, isi_list_tuple, isi_list_list, isi_NoneType_int, isi_NoneType_bool, isi_NoneType_str, isi_NoneType_tuple, isi_NoneType_list, isi_bool_int, isi_bool_bool, isi_bool_str, isi_bool_tuple, isi_bool_list, strM, eqP_bb, neP_bb, andV, orV, notV, slM, slMv, asInt, str_len, addP_ii, addP_ib, addP_ss, addP_ll, addP_tt, iaddP_ii, subP_ii, mulP_ii, mulP_si, fdivP_ii, modP_ii, negP_i, absP_i, intP_i, intP_b, ltP_ii, leP_ii, gtP_ii, geP_ii, ltP_ss, leP_ss, gtP_ss, geP_ss, eqP_ii, eqP_ss, neP_ii, neP_ss, isP_b, isNotP_b, inP_1, notInP_1, lenP_s, lenP_l, lenP_t, lenP_q, listP_s, listP_l, listP_t, tupleP_l, tupleP_t, ixP_l, ixP_t, ixP_q, ixP_s, atI_nat, atI_2, atI_3, atI_4, atI_0, atI_1, atI_last, setV_l, getV_l, ixN_nat, ixN_2, ixN_3, ixN_4, ixN_0, ixN_1, popP_n, appendP_1, extendP_l, slP_to, slP_from, slP_tto, slP_tfrom, slP_lto, slP_lfrom, MC.when, fl]
  by_cases h1 : r = 1
  · subst h1
    refine ⟨d, a, x7, ?_, hd, oa⟩
    generalize S a = Z2 at *
    generalize S b = Z3 at *
    simp -implicitDefEqProofs [pif, bind_run, pure_run, lift_run, ite_run, bad_run, fnOf, runF, argE, seqM, ifM, asT, bin2, bin2v, un1, unL, asF, setM, setIxM, augIxM, augM, retM, giveM, dropM, look, take, put, frz1, ownsAny, owns, store, change, mutM, onL, isB, truM, truP, MC.notM, MC.andM, MC.orM, chain, tupM, lstM, consM, outs, callM, valM, slotM, argSlots, frzS, resolve, ioSlots, setIo, itemsM, itemsOf, PV.flat, isi_int_int, isi_int_bool, isi_int_str, isi_int_tuple, isi_int_list, isi_str_int, isi_str_bool, isi_str_str, isi_str_tuple, isi_str_list, isi_tuple_int, isi_tuple_bool, isi_tuple_str, isi_tuple_tuple, isi_tuple_list, isi_list_int, isi_list_bool, isi_list_str, isi_list_tuple, isi_list_list, isi_NoneType_int, isi_NoneType_bool, isi_NoneType_str, isi_NoneType_tuple, isi_NoneType_list, isi_bool_int, isi_bool_bool, isi_bool_str, isi_bool_tuple, isi_bool_list, strM, eqP_bb, neP_bb, andV, orV, notV, slM, slMv, asInt, str_len, addP_ii, addP_ib, addP_ss, addP_ll, addP_tt, iaddP_ii, subP_ii, mulP_ii, mulP_si, fdivP_ii, modP_ii, negP_i, absP_i, intP_i, intP_b, ltP_ii, leP_ii, gtP_ii, geP_ii, ltP_ss, leP_ss, gtP_ss, geP_ss, eqP_ii, eqP_ss, neP_ii, neP_ss, isP_b, isNotP_b, inP_1, notInP_1, lenP_s, lenP_l, lenP_t, lenP_q, listP_s, listP_l, listP_t, tupleP_l, tupleP_t, ixP_l, ixP_t, ixP_q, ixP_s, atI_nat, atI_2, atI_3, atI_4, atI_0, atI_1, atI_last, setV_l, getV_l, ixN_nat, ixN_2, ixN_3, ixN_4, ixN_0, ixN_1, popP_n, appendP_1, extendP_l, slP_to, slP_from, slP_tto, slP_tfrom, slP_lto, slP_lfrom, MC.when, fl]
  by_cases h2 : r = 2 ∧ 0 < a.length
  · obtain ⟨rfl, hp⟩ := h2
    obtain ⟨r, d2, e2, q0, q1, hd2⟩ := draw_ok hd (many := a.length) (by omega) (by omega)
    obtain ⟨k, rfl⟩ := Int.eq_ofNat_of_zero_le q0
    obtain ⟨c, d3, e3, hcA, hd3⟩ := pick_s hd2 h0 (by omega)
    have hk : k < a.length := by omega
    have s1 : slP (S a) none (some (k : Int)) = some (false, S (a.take k)) := slP_to hf
    have s2 : slP (S a) (some ((k + 1 : Nat) : Int)) none = some (false, S (a.drop (k + 1))) := slP_from hf
    have a1 : addP (S (a.take k)) (S [c]) = some (false, S (a.take k ++ [c])) := addP_ss (fits_of (by rw [List.length_take]; simp only [List.length_cons, List.length_nil]; omega))
    have a2 : addP (S (a.take k ++ [c])) (S (a.drop (k + 1))) = some (false, S (a.take k ++ [c] ++ a.drop (k + 1))) := addP_ss (fits_of (by rw [List.length_append, List.length_take, List.length_drop]; simp only [List.length_cons, List.length_nil]; omega))
    have e4 : (k : Int) + 1 = (k + 1 : Nat) := by omega
    have hp' : (0 : Int) < a.length := by omega
    have e3' : F__law_pick [d2, S A] = some ((false, S [c]), [d3]) := e3
    refine ⟨d3, a.take k ++ [c] ++ a.drop (k + 1), some (false, .int k), ?_, hd3, by rw [List.length_append, List.length_append, List.length_take, List.length_drop]; simp only [List.length_cons, List.length_nil]; omega, fun z hz => ?_⟩
    · generalize S (a.take k ++ [c] ++ a.drop (k + 1)) = Z at *
      generalize S (a.take k ++ [c]) = Z1 at *
      generalize S (a.take k) = Z4 at *
      generalize S (a.drop (k + 1)) = Z5 at *
      generalize S [c] = Z6 at *
      generalize S a = Z2 at *
      generalize S b = Z3 at *
      generalize S A = Z7 at *
      generalize (a.length : Int) = L at *
      generalize ((k + 1 : Nat) : Int) = K1 at *
      generalize (k : Int) = K at *
      simp -implicitDefEqProofs [pif, hl, hp', e2, s1, e3', s2, a1, a2, e4, bind_run, pure_run, lift_run, ite_run, bad_run, fnOf, runF, argE, seqM, ifM, asT, bin2, bin2v, un1, unL, asF, setM, setIxM, augIxM, augM, retM, giveM, dropM, look, take, put, frz1, ownsAny, owns, store, change, mutM, onL, isB, truM, truP, MC.notM, MC.andM, MC.orM, chain, tupM, lstM, consM, outs, callM, valM, slotM, argSlots, frzS, resolve, ioSlots, setIo, itemsM, itemsOf, PV.flat, isi_int_int, isi_int_bool, isi_int_str, isi_int_tuple, isi_int_list, isi_str_int, isi_str_bool, isi_str_str, isi_str_tuple, isi_str_list, isi_tuple_int, isi_tuple_bool, isi_tuple_str, isi_tuple_tuple, isi_tuple_list, isi_list_int, isi_list_bool, isi_list_str, isi_list_tuple, isi_list_list, isi_NoneType_int, isi_NoneType_bool, isi_NoneType_str, isi_NoneType_tuple, isi_NoneType_list, isi_bool_int, isi_bool_bool, isi_bool_str, isi_bool_tuple, isi_bool_list, strM, eqP_bb, neP_bb, andV, orV, notV, slM, slMv, asInt, str_len, addP_ii, addP_ib, addP_ss, addP_ll, addP_tt, iaddP_ii, subP_ii, mulP_ii, mulP_si, fdivP_ii, modP_ii, negP_i, absP_i, intP_i, intP_b, ltP_ii, leP_ii, gtP_ii, geP_ii, ltP_ss, leP_ss, gtP_ss, geP_ss, eqP_ii, eqP_ss, neP_ii, neP_ss, isP_b, isNotP_b, inP_1, notInP_1, lenP_s, lenP_l, lenP_t, lenP_q, listP_s, listP_l, listP_t, tupleP_l, tupleP_t, ixP_l, ixP_t, ixP_q, ixP_s, atI_nat, atI_2, atI_3, atI_4, atI_0, atI_1, atI_last, setV_l, getV_l, ixN_nat, ixN_2, ixN_3, ixN_4, ixN_0, ixN_1, popP_n, appendP_1, extendP_l, slP_to, slP_from, slP_tto, slP_tfrom, slP_lto, slP_lfrom, MC.when, fl]
    · rcases List.mem_append.mp hz with h | h
      · rcases List.mem_append.mp h with h | h
        · exact oa.c z (List.mem_of_mem_take h)
        · rw [List.mem_singleton.mp h]; exact hc c hcA
      · exact oa.c z (List.mem_of_mem_drop h)
  · refine ⟨d, b, x7, ?_, hd, ob⟩
    by_cases h3 : r = 2
    · subst h3
      have hz : ¬ (0 : Int) < a.length := by omega
      generalize (a.length : Int) = L at *
      generalize S a = Z2 at *
      generalize S b = Z3 at *
      simp -implicitDefEqProofs [pif, hl, hz, bind_run, pure_run, lift_run, ite_run, bad_run, fnOf, runF, argE, seqM, ifM, asT, bin2, bin2v, un1, unL, asF, setM, setIxM, augIxM, augM, retM, giveM, dropM, look, take, put, frz1, ownsAny, owns, store, change, mutM, onL, isB, truM, truP, MC.notM, MC.andM, MC.orM, chain, tupM, lstM, consM, outs, callM, valM, slotM, argSlots, frzS, resolve, ioSlots, setIo, itemsM, itemsOf, PV.flat, isi_int_int, isi_int_bool, isi_int_str, isi_int_tuple, isi_int_list, isi_str_int, isi_str_bool, isi_str_str, isi_str_tuple, isi_str_list, isi_tuple_int, isi_tuple_bool, isi_tuple_str, isi_tuple_tuple, isi_tuple_list, isi_list_int, isi_list_bool, isi_list_str, isi_list_tuple, isi_list_list, isi_NoneType_int, isi_NoneType_bool, isi_NoneType_str, isi_NoneType_tuple, isi_NoneType_list, isi_bool_int, isi_bool_bool, isi_bool_str, isi_bool_tuple, isi_bool_list, strM, eqP_bb, neP_bb, andV, orV, notV, slM, slMv, asInt, str_len, addP_ii, addP_ib, addP_ss, addP_ll, addP_tt, iaddP_ii, subP_ii, mulP_ii, mulP_si, fdivP_ii, modP_ii, negP_i, absP_i, intP_i, intP_b, ltP_ii, leP_ii, gtP_ii, geP_ii, ltP_ss, leP_ss, gtP_ss, geP_ss, eqP_ii, eqP_ss, neP_ii, neP_ss, isP_b, isNotP_b, inP_1, notInP_1, lenP_s, lenP_l, lenP_t, lenP_q, listP_s, listP_l, listP_t, tupleP_l, tupleP_t, ixP_l, ixP_t, ixP_q, ixP_s, atI_nat, atI_2, atI_3, atI_4, atI_0, atI_1, atI_last, setV_l, getV_l, ixN_nat, ixN_2, ixN_3, ixN_4, ixN_0, ixN_1, popP_n, appendP_1, extendP_l, slP_to, slP_from, slP_tto, slP_tfrom, slP_lto, slP_lfrom, MC.when, fl]
    · generalize S a = Z2 at *
      generalize S b = Z3 at *
      simp -implicitDefEqProofs [pif, h, h1, h3, bind_run, pure_run, lift_run, ite_run, bad_run, fnOf, runF, argE, seqM, ifM, asT, bin2, bin2v, un1, unL, asF, setM, setIxM, augIxM, augM, retM, giveM, dropM, look, take, put, frz1, ownsAny, owns, store, change, mutM, onL, isB, truM, truP, MC.notM, MC.andM, MC.orM, chain, tupM, lstM, consM, outs, callM, valM, slotM, argSlots, frzS, resolve, ioSlots, setIo, itemsM, itemsOf, PV.flat, isi_int_int, isi_int_bool, isi_int_str, isi_int_tuple, isi_int_list, isi_str_int, isi_str_bool, isi_str_str, isi_str_tuple, isi_str_list, isi_tuple_int, isi_tuple_bool, isi_tuple_str, isi_tuple_tuple, isi_tuple_list, isi_list_int, isi_list_bool, isi_list_str, isi_list_tuple, isi_list_list, isi_NoneType_int, isi_NoneType_bool, isi_NoneType_str, isi_NoneType_tuple, isi_NoneType_list, isi_bool_int, isi_bool_bool, isi_bool_str, isi_bool_tuple, isi_bool_list, strM, eqP_bb, neP_bb, andV, orV, notV, slM, slMv, asInt, str_len, addP_ii, addP_ib, addP_ss, addP_ll, addP_tt, iaddP_ii, subP_ii, mulP_ii, mulP_si, fdivP_ii, modP_ii, negP_i, absP_i, intP_i, intP_b, ltP_ii, leP_ii, gtP_ii, geP_ii, ltP_ss, leP_ss, gtP_ss, geP_ss, eqP_ii, eqP_ss, neP_ii, neP_ss, isP_b, isNotP_b, inP_1, notInP_1, lenP_s, lenP_l, lenP_t, lenP_q, listP_s, listP_l, listP_t, tupleP_l, tupleP_t, ixP_l, ixP_t, ixP_q, ixP_s, atI_nat, atI_2, atI_3, atI_4, atI_0, atI_1, atI_last, setV_l, getV_l, ixN_nat, ixN_2, ixN_3, ixN_4, ixN_0, ixN_1, popP_n, appendP_1, extendP_l, slP_to, slP_from, slP_tto, slP_tfrom, slP_lto, slP_lfrom, MC.when, fl]
theorem pairs_bd {d : PV} {A : Wd} {l : List (Wd × Wd)} {x3 x4 x5 x6 x7 : Option (Bool × PV)} (hd : IsDr d) (h0 : A ≠ []) (hA : A.length ≤ 10) (hc : ∀ c ∈ A, c ≤ 1000) (hl : l.length ≤ 1000) (ho : ∀ p ∈ l, OkW p.1 ∧ OkW p.2) :
    ∃ d' l' x4' x5' x6' x7', bd1__law_pairs [some (true, d), some (false, S A), some (true, .lst (l.map PR)), x3, x4, x5, x6, x7] = some (.nx, [some (true, d'), some (false, S A), some (true, .lst ((l' : List (Wd × Wd)).map PR)), x3, x4', x5', x6', x7']) ∧ IsDr d' ∧ l'.length = l.length + 2 ∧ ∀ p ∈ l', OkW p.1 ∧ OkW p.2 := by
  obtain ⟨a, d1, e1, hd1, na, ca⟩ := word_ok hd h0 hA
  obtain ⟨b, d2, e2, hd2, nb, cb⟩ := word_ok hd1 h0 hA
  obtain ⟨r, d3, e3, r0, r1, hd3⟩ := draw_ok hd2 (many := 4) (by omega) (by omega)
  obtain ⟨d4, b', x7', e4, hd4, ob⟩ := pif_ok (x2 := some (true, .lst (l.map PR))) (x3 := x3) (x7 := x7) (r := r) hd3 h0 hA hc na nb ca cb
  have oa : OkW a := ⟨by omega, fun c h => hc c (ca c h)⟩
  have ap1 := appendP_1 (xs := l.map PR) (x := PR (a, b')) (by rw [List.length_map]; omega)
  have ap2 := appendP_1 (xs := l.map PR ++ [PR (a, b')]) (x := PR (b', a)) (by rw [List.length_append, List.length_map]; simp only [List.length_cons, List.length_nil]; omega)
  refine ⟨d4, l ++ [(a, b'), (b', a)], some (false, S a), some (false, S b'), some (false, .int r), x7', ?_, hd4, by rw [List.length_append]; rfl, fun p hp => ?_⟩
  · rw [show (l ++ [(a, b'), (b', a)]).map PR = (l.map PR ++ [PR (a, b')]) ++ [PR (b', a)] by rw [List.map_append, List.append_assoc]; rfl]
    unfold bd1__law_pairs
    refine seq_nx (ρ' := [some (true, d1), some (false, S A), some (true, .lst (l.map PR)), x3, some (false, S a), x5, x6, x7]) ?_ (seq_nx (ρ' := [some (true, d2), some (false, S A), some (true, .lst (l.map PR)), x3, some (false, S a), some (false, S b), x6, x7]) ?_ (seq_nx (ρ' := [some (true, d3), some (false, S A), some (true, .lst (l.map PR)), x3, some (false, S a), some (false, S b), some (false, .int r), x7]) ?_ (seq_nx e4 ?_)))
    · generalize l.map PR = Z at *
      generalize S A = Z2 at *
      simp -implicitDefEqProofs [e1, bind_run, pure_run, lift_run, ite_run, bad_run, fnOf, runF, argE, seqM, ifM, asT, bin2, bin2v, un1, unL, asF, setM, setIxM, augIxM, augM, retM, giveM, dropM, look, take, put, frz1, ownsAny, owns, store, change, mutM, onL, isB, truM, truP, MC.notM, MC.andM, MC.orM, chain, tupM, lstM, consM, outs, callM, valM, slotM, argSlots, frzS, resolve, ioSlots, setIo, itemsM, itemsOf, PV.flat, isi_int_int, isi_int_bool, isi_int_str, isi_int_tuple, isi_int_list, isi_str_int, isi_str_bool, isi_str_str, isi_str_tuple, isi_str_list, isi_tuple_int, isi_tuple_bool, isi_tuple_str, isi_tuple_tuple, isi_tuple_list, isi_list_int, isi_list_bool, isi_list_str, isi_list_tuple, isi_list_list, isi_NoneType_int, isi_NoneType_bool, isi_NoneType_str, isi_NoneType_tuple, isi_NoneType_list, isi_bool_int, isi_bool_bool, isi_bool_str, isi_bool_tuple, isi_bool_list, strM, eqP_bb, neP_bb, andV, orV, notV, slM, slMv, asInt, str_len, addP_ii, addP_ib, addP_ss, addP_ll, addP_tt, iaddP_ii, subP_ii, mulP_ii, mulP_si, fdivP_ii, modP_ii, negP_i, absP_i, intP_i, intP_b, ltP_ii, leP_ii, gtP_ii, geP_ii, ltP_ss, leP_ss, gtP_ss, geP_ss, eqP_ii, eqP_ss, neP_ii, neP_ss, isP_b, isNotP_b, inP_1, notInP_1, lenP_s, lenP_l, lenP_t, lenP_q, listP_s, listP_l, listP_t, tupleP_l, tupleP_t, ixP_l, ixP_t, ixP_q, ixP_s, atI_nat, atI_2, atI_3, atI_4, atI_0, atI_1, atI_last, setV_l, getV_l, ixN_nat, ixN_2, ixN_3, ixN_4, ixN_0, ixN_1, popP_n, appendP_1, extendP_l, slP_to, slP_from, slP_tto, slP_tfrom, slP_lto, slP_lfrom, MC.when, fl]
    · generalize l.map PR = Z at *
      generalize S A = Z2 at *
      simp -implicitDefEqProofs [e2, bind_run, pure_run, lift_run, ite_run, bad_run, fnOf, runF, argE, seqM, ifM, asT, bin2, bin2v, un1, unL, asF, setM, setIxM, augIxM, augM, retM, giveM, dropM, look, take, put, frz1, ownsAny, owns, store, change, mutM, onL, isB, truM, truP, MC.notM, MC.andM, MC.orM, chain, tupM, lstM, consM, outs, callM, valM, slotM, argSlots, frzS, resolve, ioSlots, setIo, itemsM, itemsOf, PV.flat, isi_int_int, isi_int_bool, isi_int_str, isi_int_tuple, isi_int_list, isi_str_int, isi_str_bool, isi_str_str, isi_str_tuple, isi_str_list, isi_tuple_int, isi_tuple_bool, isi_tuple_str, isi_tuple_tuple, isi_tuple_list, isi_list_int, isi_list_bool, isi_list_str, isi_list_tuple, isi_list_list, isi_NoneType_int, isi_NoneType_bool, isi_NoneType_str, isi_NoneType_tuple, isi_NoneType_list, isi_bool_int, isi_bool_bool, isi_bool_str, isi_bool_tuple, isi_bool_list, strM, eqP_bb, neP_bb, andV, orV, notV, slM, slMv, asInt, str_len, addP_ii, addP_ib, addP_ss, addP_ll, addP_tt, iaddP_ii, subP_ii, mulP_ii, mulP_si, fdivP_ii, modP_ii, negP_i, absP_i, intP_i, intP_b, ltP_ii, leP_ii, gtP_ii, geP_ii, ltP_ss, leP_ss, gtP_ss, geP_ss, eqP_ii, eqP_ss, neP_ii, neP_ss, isP_b, isNotP_b, inP_1, notInP_1, lenP_s, lenP_l, lenP_t, lenP_q, listP_s, listP_l, listP_t, tupleP_l, tupleP_t, ixP_l, ixP_t, ixP_q, ixP_s, atI_nat, atI_2, atI_3, atI_4, atI_0, atI_1, atI_last, setV_l, getV_l, ixN_nat, ixN_2, ixN_3, ixN_4, ixN_0, ixN_1, popP_n, appendP_1, extendP_l, slP_to, slP_from, slP_tto, slP_tfrom, slP_lto, slP_lfrom, MC.when, fl]
    · generalize l.map PR = Z at *
      generalize S A = Z2 at *
      simp -implicitDefEqProofs [e3, bind_run, pure_run, lift_run, ite_run, bad_run, fnOf, runF, argE, seqM, ifM, asT, bin2, bin2v, un1, unL, asF, setM, setIxM, augIxM, augM, retM, giveM, dropM, look, take, put, frz1, ownsAny, owns, store, change, mutM, onL, isB, truM, truP, MC.notM, MC.andM, MC.orM, chain, tupM, lstM, consM, outs, callM, valM, slotM, argSlots, frzS, resolve, ioSlots, setIo, itemsM, itemsOf, PV.flat, isi_int_int, isi_int_bool, isi_int_str, isi_int_tuple, isi_int_list, isi_str_int, isi_str_bool, isi_str_str, isi_str_tuple, isi_str_list, isi_tuple_int, isi_tuple_bool, isi_tuple_str, isi_tuple_tuple, isi_tuple_list, isi_list_int, isi_list_bool, isi_list_str, isi_list_tuple, isi_list_list, isi_NoneType_int, isi_NoneType_bool, isi_NoneType_str, isi_NoneType_tuple, isi_NoneType_list, isi_bool_int, isi_bool_bool, isi_bool_str, isi_bool_tuple, isi_bool_list, strM, eqP_bb, neP_bb, andV, orV, notV, slM, slMv, asInt, str_len, addP_ii, addP_ib, addP_ss, addP_ll, addP_tt, iaddP_ii, subP_ii, mulP_ii, mulP_si, fdivP_ii, modP_ii, negP_i, absP_i, intP_i, intP_b, ltP_ii, leP_ii, gtP_ii, geP_ii, ltP_ss, leP_ss, gtP_ss, geP_ss, eqP_ii, eqP_ss, neP_ii, neP_ss, isP_b, isNotP_b, inP_1, notInP_1, lenP_s, lenP_l, lenP_t, lenP_q, listP_s, listP_l, listP_t, tupleP_l, tupleP_t, ixP_l, ixP_t, ixP_q, ixP_s, atI_nat, atI_2, atI_3, atI_4, atI_0, atI_1, atI_last, setV_l, getV_l, ixN_nat, ixN_2, ixN_3, ixN_4, ixN_0, ixN_1, popP_n, appendP_1, extendP_l, slP_to, slP_from, slP_tto, slP_tfrom, slP_lto, slP_lfrom, MC.when, fl]
    · have u1 : PV.tup [S a, S b'] = PR (a, b') := rfl
      have u2 : PV.tup [S b', S a] = PR (b', a) := rfl
      generalize l.map PR = Z at *
      generalize hP1 : PR (a, b') = P1 at *
      generalize hP2 : PR (b', a) = P2 at *
      generalize (Z ++ [P1] ++ [P2]) = Z3 at *
      generalize (Z ++ [P1]) = Z4 at *
      generalize S A = Z2 at *
      generalize S a = A1 at *
      generalize S b' = B1 at *
      simp -implicitDefEqProofs [u1, u2, ap1, ap2, f2, bind_run, pure_run, lift_run, ite_run, bad_run, fnOf, runF, argE, seqM, ifM, asT, bin2, bin2v, un1, unL, asF, setM, setIxM, augIxM, augM, retM, giveM, dropM, look, take, put, frz1, ownsAny, owns, store, change, mutM, onL, isB, truM, truP, MC.notM, MC.andM, MC.orM, chain, tupM, lstM, consM, outs, callM, valM, slotM, argSlots, frzS, resolve, ioSlots, setIo, itemsM, itemsOf, PV.flat, isi_int_int, isi_int_bool, isi_int_str, isi_int_tuple, isi_int_list, isi_str_int, isi_str_bool, isi_str_str, isi_str_tuple, isi_str_list, isi_tuple_int, isi_tuple_bool, isi_tuple_str, isi_tuple_tuple, isi_tuple_list, isi_list_int, isi_list_bool, isi_list_str, isi_list_tuple, isi_list_list, isi_NoneType_int, isi_NoneType_bool, isi_NoneType_str, isi_NoneType_tuple, isi_NoneType_list, isi_bool_int, isi_bool_bool, isi_bool_str, isi_bool_tuple, isi_bool_list, strM, eqP_bb, neP_bb, andV, orV, notV, slM, slMv, asInt, str_len, addP_ii, addP_ib, addP_ss, addP_ll, addP_tt, iaddP_ii, subP_ii, mulP_ii, mulP_si, fdivP_ii, modP_ii, negP_i, absP_i, intP_i, intP_b, ltP_ii, leP_ii, gtP_ii, geP_ii, ltP_ss, leP_ss, gtP_ss, geP_ss, eqP_ii, eqP_ss, neP_ii, neP_ss, isP_b, isNotP_b, inP_1, notInP_1, lenP_s, lenP_l, lenP_t, lenP_q, listP_s, listP_l, listP_t, tupleP_l, tupleP_t, ixP_l, ixP_t, ixP_q, ixP_s, atI_nat, atI_2, atI_3, atI_4, atI_0, atI_1, atI_last, setV_l, getV_l, ixN_nat, ixN_2, ixN_3, ixN_4, ixN_0, ixN_1, popP_n, appendP_1, extendP_l, slP_to, slP_from, slP_tto, slP_tfrom, slP_lto, slP_lfrom, MC.when, fl]
  · rcases List.mem_append.mp hp with h | h
    · exact ho p h
    · rcases List.mem_cons.mp h with rfl | h
      · exact ⟨oa, ob⟩
      · rw [List.mem_singleton.mp h]; exact ⟨ob, oa⟩
theorem pairs_ok {d : PV} {A : Wd} (hd : IsDr d) (h0 : A ≠ []) (hA : A.length ≤ 10) (hc : ∀ c ∈ A, c ≤ 1000) : ∃ d' l, F__law_pairs [d, S A] = some ((true, .lst ((l : List (Wd × Wd)).map PR)), [d']) ∧ IsDr d' ∧ ∀ p ∈ l, OkW p.1 ∧ OkW p.2 := by
  obtain ⟨ρ', h1, d', l, x3, x4, x5, x6, x7, rfl, hd', hl, ho⟩ := forM_inv (h := put 3 false) (f := bd1__law_pairs) (fun i ρ => ∃ d' l x3 x4 x5 x6 x7, ρ = [some (true, d'), some (false, S A), some (true, .lst ((l : List (Wd × Wd)).map PR)), x3, x4, x5, x6, x7] ∧ IsDr d' ∧ l.length = 2 * i ∧ ∀ p ∈ l, OkW p.1 ∧ OkW p.2) (rangeL 0 (6 : Nat)) 0 [some (true, d), some (false, S A), some (true, .lst []), none, none, none, none, none] ⟨d, [], none, none, none, none, none, rfl, hd, rfl, by simp⟩ (by
    rintro i x _ hx ⟨d', l, x3, x4, x5, x6, x7, rfl, hd', hl, ho⟩
    obtain ⟨hi, rfl⟩ := range_get hx
    obtain ⟨d2, l2, y4, y5, y6, y7, e, hd2, hl2, ho2⟩ := pairs_bd (x3 := some (false, .int i)) (x4 := x4) (x5 := x5) (x6 := x6) (x7 := x7) hd' h0 hA hc (by omega) ho
    exact ⟨_, .inl (bind_of rfl e), d2, l2, _, y4, y5, y6, y7, rfl, hd2, by omega, ho2⟩)
  have k1 : setM 2 (lstM (pure [])) [some (true, d), some (false, S A), none, none, none, none, none, none] = some (.nx, [some (true, d), some (false, S A), some (true, .lst []), none, none, none, none, none]) := by
    simp -implicitDefEqProofs [f0', bind_run, pure_run, lift_run, ite_run, bad_run, fnOf, runF, argE, seqM, ifM, asT, bin2, bin2v, un1, unL, asF, setM, setIxM, augIxM, augM, retM, giveM, dropM, look, take, put, frz1, ownsAny, owns, store, change, mutM, onL, isB, truM, truP, MC.notM, MC.andM, MC.orM, chain, tupM, lstM, consM, outs, callM, valM, slotM, argSlots, frzS, resolve, ioSlots, setIo, itemsM, itemsOf, PV.flat, isi_int_int, isi_int_bool, isi_int_str, isi_int_tuple, isi_int_list, isi_str_int, isi_str_bool, isi_str_str, isi_str_tuple, isi_str_list, isi_tuple_int, isi_tuple_bool, isi_tuple_str, isi_tuple_tuple, isi_tuple_list, isi_list_int, isi_list_bool, isi_list_str, isi_list_tuple, isi_list_list, isi_NoneType_int, isi_NoneType_bool, isi_NoneType_str, isi_NoneType_tuple, isi_NoneType_list, isi_bool_int, isi_bool_bool, isi_bool_str, isi_bool_tuple, isi_bool_list, strM, eqP_bb, neP_bb, andV, orV, notV, slM, slMv, asInt, str_len, addP_ii, addP_ib, addP_ss, addP_ll, addP_tt, iaddP_ii, subP_ii, mulP_ii, mulP_si, fdivP_ii, modP_ii, negP_i, absP_i, intP_i, intP_b, ltP_ii, leP_ii, gtP_ii, geP_ii, ltP_ss, leP_ss, gtP_ss, geP_ss, eqP_ii, eqP_ss, neP_ii, neP_ss, isP_b, isNotP_b, inP_1, notInP_1, lenP_s, lenP_l, lenP_t, lenP_q, listP_s, listP_l, listP_t, tupleP_l, tupleP_t, ixP_l, ixP_t, ixP_q, ixP_s, atI_nat, atI_2, atI_3, atI_4, atI_0, atI_1, atI_last, setV_l, getV_l, ixN_nat, ixN_2, ixN_3, ixN_4, ixN_0, ixN_1, popP_n, appendP_1, extendP_l, slP_to, slP_from, slP_tto, slP_tfrom, slP_lto, slP_lfrom, MC.when, fl]
  have k2 : fo1__law_pairs [some (true, d), some (false, S A), some (true, .lst []), none, none, none, none, none] = some (.nx, [some (true, d'), some (false, S A), some (true, .lst (l.map PR)), x3, x4, x5, x6, x7]) := by
    unfold fo1__law_pairs
    exact for_range (n := 6) (ρ' := [some (true, d), some (false, S A), some (true, .lst []), none, none, none, none, none]) rfl (by omega) h1
  exact ⟨d', l, fn_run rfl rfl (seq_nx k1 (seq_nx k2 rfl)) rfl, hd', ho⟩
end MC.Law
set_option Elab.async false
set_option linter.all false
set_option maxRecDepth 100000
set_option maxHeartbeats 4000000
/-! comparisons -/
namespace MC.Law
open PySem PySem.W
def fu : List Nat → List Nat → Nat
  | x :: a, y :: b => if x = y then fu a b + 1 else 0
  | _, _ => 0
theorem fu_le : ∀ a b : List Nat, fu a b ≤ a.length ∧ fu a b ≤ b.length
  | [], _ => ⟨Nat.le_refl _, Nat.zero_le _⟩
  | _ :: _, [] => ⟨Nat.zero_le _, Nat.le_refl _⟩
  | x :: a, y :: b => by
    unfold fu
    have := fu_le a b
    split
    · simp only [List.length_cons]; omega
    · exact ⟨Nat.zero_le _, Nat.zero_le _⟩
theorem fu_eq : ∀ (a b : List Nat) (i : Nat), i < fu a b → a[i]? = b[i]?
  | [], _, i, h => absurd h (by unfold fu; omega)
  | _ :: _, [], i, h => absurd h (by unfold fu; omega)
  | x :: a, y :: b, i, h => by
    unfold fu at h
    split at h
    · rename_i e
      subst e
      cases i with
      | zero => rfl
      | succ i => exact fu_eq a b i (by omega)
    · exact absurd h (by omega)
theorem fu_ne : ∀ (a b : List Nat), fu a b < a.length → fu a b < b.length → a[fu a b]? ≠ b[fu a b]?
  | [], _, h, _ => absurd h (by simp)
  | _ :: _, [], _, h => absurd h (by simp)
  | x :: a, y :: b, h1, h2 => by
    unfold fu at h1 h2 ⊢
    split at h1
    · rename_i e
      subst e
      rw [if_pos rfl] at h2 ⊢
      simp only [List.length_cons] at h1 h2
      exact fu_ne a b (by omega) (by omega)
    · rename_i e
      rw [if_neg e]
      simpa using e
/-- dictionary order, by the first place where two words differ -/
def dct (a b : List Nat) : Bool := if fu a b = b.length then false else if fu a b = a.length then true else decide (a.getD (fu a b) 0 < b.getD (fu a b) 0)
theorem dct_ok : ∀ a b : List Nat, dct a b = decide (a < b)
  | [], [] => by decide
  | [], y :: b => by unfold dct; simp [fu]
  | x :: a, [] => by unfold dct; simp [fu]
  | x :: a, y :: b => by
    have ih := dct_ok a b
    unfold dct at ih ⊢
    unfold fu
    by_cases e : x = y
    · subst e
      rw [if_pos rfl]
      simp only [List.length_cons, Nat.add_right_cancel_iff, List.getD_cons_succ]
      rw [ih]
      exact decide_eq_decide.mpr (by rw [List.cons_lt_cons_iff]; simp)
    · rw [if_neg e]
      simp [List.cons_lt_cons_iff, e]
section
variable {a b : Wd}
theorem ixS {i : Nat} {c : Nat} (hn : a.length ≤ 1000) (h : a[i]? = some c) : ixP (S a) (.int i) = some (false, S [c]) := by
  rw [ixP_s (fits_of (by omega)), atI_nat, h]; rfl
theorem lowS {c : Nat} (h : c ≤ 1000) : low [c] = true := by
  unfold low; simp; omega
theorem fu_ok (oa : OkW a) (ob : OkW b) : F__law_first_unlike [S a, S b] = some ((false, .int (fu a b)), []) := by
  have ha : a.length ≤ 1000 := by have := oa.n; omega
  have hb : b.length ≤ 1000 := by have := ob.n; omega
  have la := lenS ha
  have lb := lenS hb
  obtain ⟨l1, l2⟩ := fu_le a b
  have w := while_up (c := (andM (asT (bin2v 2 (asF (un1 (look 0) lenP)) ltP)) (andM (asT (bin2v 2 (asF (un1 (look 1) lenP)) ltP)) (asT (bin2 (asF (bin2v 0 (look 2) ixP)) (asF (bin2v 1 (look 2) ixP)) eqP))))) (f := bd1__law_first_unlike) (fun i => [some (false, S a), some (false, S b), some (false, .int i)]) (t := fu a b) (by
      by_cases h1 : fu a b < a.length
      · by_cases h2 : fu a b < b.length
        · have i1 := ixS ha (List.getElem?_eq_getElem h1)
          have i2 := ixS hb (List.getElem?_eq_getElem h2)
          have ne : ¬ S [a[fu a b]] = S [b[fu a b]] := fun z => by
            have := fu_ne a b h1 h2
            rw [List.getElem?_eq_getElem h1, List.getElem?_eq_getElem h2] at this
            apply this
            simpa using z
          have ee : eqP (S [a[fu a b]]) (S [b[fu a b]]) = some (false, .bl false) := by rw [eqP_ss (lowS (oa.c _ (List.getElem_mem h1))) (lowS (ob.c _ (List.getElem_mem h2)))]; congr 3; exact decide_eq_false fun z => ne (by rw [z])
          have c1 : ((fu a b : Nat) : Int) < a.length := by omega
          have c2 : ((fu a b : Nat) : Int) < b.length := by omega
          generalize S [a[fu a b]] = A1 at *
          generalize S [b[fu a b]] = B1 at *
          generalize (a.length : Int) = LA at *
          generalize (b.length : Int) = LB at *
          generalize S a = SA at *
          generalize S b = SB at *
          generalize ((fu a b : Nat) : Int) = N at *
          simp -implicitDefEqProofs [la, lb, c1, c2, i1, i2, ee, bind_run, pure_run, lift_run, ite_run, bad_run, fnOf, runF, argE, seqM, ifM, asT, bin2, bin2v, un1, unL, asF, setM, setIxM, augIxM, augM, retM, giveM, dropM, look, take, put, frz1, ownsAny, owns, store, change, mutM, onL, isB, truM, truP, MC.notM, MC.andM, MC.orM, chain, tupM, lstM, consM, outs, callM, valM, slotM, argSlots, frzS, resolve, ioSlots, setIo, itemsM, itemsOf, PV.flat, isi_int_int, isi_int_bool, isi_int_str, isi_int_tuple, isi_int_list, isi_str_int, isi_str_bool, isi_str_str, isi_str_tuple, isi_str_list, isi_tuple_int, isi_tuple_bool, isi_tuple_str, isi_tuple_tuple, isi_tuple_list, isi_list_int, isi_list_bool, isi_list_str, isi_list_tuple, isi_list_list, isi_NoneType_int, isi_NoneType_bool, isi_NoneType_str, isi_NoneType_tuple, isi_NoneType_list, isi_bool_int, isi_bool_bool, isi_bool_str, isi_bool_tuple, isi_bool_list, strM, eqP_bb, neP_bb, andV, orV, notV, slM, slMv, asInt, str_len, addP_ii, addP_ib, addP_ss, addP_ll, addP_tt, iaddP_ii, subP_ii, mulP_ii, mulP_si, fdivP_ii, modP_ii, negP_i, absP_i, intP_i, intP_b, ltP_ii, leP_ii, gtP_ii, geP_ii, ltP_ss, leP_ss, gtP_ss, geP_ss, eqP_ii, eqP_ss, neP_ii, neP_ss, isP_b, isNotP_b, inP_1, notInP_1, lenP_s, lenP_l, lenP_t, lenP_q, listP_s, listP_l, listP_t, tupleP_l, tupleP_t, ixP_l, ixP_t, ixP_q, ixP_s, atI_nat, atI_2, atI_3, atI_4, atI_0, atI_1, atI_last, setV_l, getV_l, ixN_nat, ixN_2, ixN_3, ixN_4, ixN_0, ixN_1, popP_n, appendP_1, extendP_l, slP_to, slP_from, slP_tto, slP_tfrom, slP_lto, slP_lfrom, MC.when, fl]
        · have c1 : ((fu a b : Nat) : Int) < a.length := by omega
          have c2 : ¬ ((fu a b : Nat) : Int) < b.length := by omega
          generalize (a.length : Int) = LA at *
          generalize (b.length : Int) = LB at *
          generalize S a = SA at *
          generalize S b = SB at *
          generalize ((fu a b : Nat) : Int) = N at *
          simp -implicitDefEqProofs [la, lb, c1, c2, bind_run, pure_run, lift_run, ite_run, bad_run, fnOf, runF, argE, seqM, ifM, asT, bin2, bin2v, un1, unL, asF, setM, setIxM, augIxM, augM, retM, giveM, dropM, look, take, put, frz1, ownsAny, owns, store, change, mutM, onL, isB, truM, truP, MC.notM, MC.andM, MC.orM, chain, tupM, lstM, consM, outs, callM, valM, slotM, argSlots, frzS, resolve, ioSlots, setIo, itemsM, itemsOf, PV.flat, isi_int_int, isi_int_bool, isi_int_str, isi_int_tuple, isi_int_list, isi_str_int, isi_str_bool, isi_str_str, isi_str_tuple, isi_str_list, isi_tuple_int, isi_tuple_bool, isi_tuple_str, isi_tuple_tuple, isi_tuple_list, isi_list_int, isi_list_bool, isi_list_str, isi_list_tuple, isi_list_list, isi_NoneType_int, isi_NoneType_bool, isi_NoneType_str, isi_NoneType_tuple, isi_NoneType_list, isi_bool_int, isi_bool_bool, isi_bool_str, isi_bool_tuple, isi_bool_list, strM, eqP_bb, neP_bb, andV, orV, notV, slM, slMv, asInt, str_len, addP_ii, addP_ib, addP_ss, addP_ll, addP_tt, iaddP_ii, subP_ii, mulP_ii, mulP_si, fdivP_ii, modP_ii, negP_i, absP_i, intP_i, intP_b, ltP_ii, leP_ii, gtP_ii, geP_ii, ltP_ss, leP_ss, gtP_ss, geP_ss, eqP_ii, eqP_ss, neP_ii, neP_ss, isP_b, isNotP_b, inP_1, notInP_1, lenP_s, lenP_l, lenP_t, lenP_q, listP_s, listP_l, listP_t, tupleP_l, tupleP_t, ixP_l, ixP_t, ixP_q, ixP_s, atI_nat, atI_2, atI_3, atI_4, atI_0, atI_1, atI_last, setV_l, getV_l, ixN_nat, ixN_2, ixN_3, ixN_4, ixN_0, ixN_1, popP_n, appendP_1, extendP_l, slP_to, slP_from, slP_tto, slP_tfrom, slP_lto, slP_lfrom, MC.when, fl]
      · have c1 : ¬ ((fu a b : Nat) : Int) < a.length := by omega
        generalize (a.length : Int) = LA at *
        generalize S a = SA at *
        generalize S b = SB at *
        generalize ((fu a b : Nat) : Int) = N at *
        simp -implicitDefEqProofs [la, lb, c1, bind_run, pure_run, lift_run, ite_run, bad_run, fnOf, runF, argE, seqM, ifM, asT, bin2, bin2v, un1, unL, asF, setM, setIxM, augIxM, augM, retM, giveM, dropM, look, take, put, frz1, ownsAny, owns, store, change, mutM, onL, isB, truM, truP, MC.notM, MC.andM, MC.orM, chain, tupM, lstM, consM, outs, callM, valM, slotM, argSlots, frzS, resolve, ioSlots, setIo, itemsM, itemsOf, PV.flat, isi_int_int, isi_int_bool, isi_int_str, isi_int_tuple, isi_int_list, isi_str_int, isi_str_bool, isi_str_str, isi_str_tuple, isi_str_list, isi_tuple_int, isi_tuple_bool, isi_tuple_str, isi_tuple_tuple, isi_tuple_list, isi_list_int, isi_list_bool, isi_list_str, isi_list_tuple, isi_list_list, isi_NoneType_int, isi_NoneType_bool, isi_NoneType_str, isi_NoneType_tuple, isi_NoneType_list, isi_bool_int, isi_bool_bool, isi_bool_str, isi_bool_tuple, isi_bool_list, strM, eqP_bb, neP_bb, andV, orV, notV, slM, slMv, asInt, str_len, addP_ii, addP_ib, addP_ss, addP_ll, addP_tt, iaddP_ii, subP_ii, mulP_ii, mulP_si, fdivP_ii, modP_ii, negP_i, absP_i, intP_i, intP_b, ltP_ii, leP_ii, gtP_ii, geP_ii, ltP_ss, leP_ss, gtP_ss, geP_ss, eqP_ii, eqP_ss, neP_ii, neP_ss, isP_b, isNotP_b, inP_1, notInP_1, lenP_s, lenP_l, lenP_t, lenP_q, listP_s, listP_l, listP_t, tupleP_l, tupleP_t, ixP_l, ixP_t, ixP_q, ixP_s, atI_nat, atI_2, atI_3, atI_4, atI_0, atI_1, atI_last, setV_l, getV_l, ixN_nat, ixN_2, ixN_3, ixN_4, ixN_0, ixN_1, popP_n, appendP_1, extendP_l, slP_to, slP_from, slP_tto, slP_tfrom, slP_lto, slP_lfrom, MC.when, fl]) (fu a b) 0 (by omega) (fun i _ hi => by
      have h1 : i < a.length := by omega
      have h2 : i < b.length := by omega
      have i1 := ixS ha (List.getElem?_eq_getElem h1)
      have i2 := ixS hb (List.getElem?_eq_getElem h2)
      have ee : eqP (S [a[i]]) (S [b[i]]) = some (false, .bl true) := by
        have := fu_eq a b i hi
        rw [List.getElem?_eq_getElem h1, List.getElem?_eq_getElem h2] at this
        rw [eqP_ss (lowS (oa.c _ (List.getElem_mem h1))) (lowS (ob.c _ (List.getElem_mem h2)))]; congr 3; exact decide_eq_true (by rw [Option.some.inj this])
      have c1 : (i : Int) < a.length := by omega
      have c2 : (i : Int) < b.length := by omega
      have e1 : ((i + 1 : Nat) : Int) = (i : Int) + 1 := by omega
      rw [e1]
      generalize S [a[i]] = A1 at *
      generalize S [b[i]] = B1 at *
      generalize (a.length : Int) = LA at *
      generalize (b.length : Int) = LB at *
      generalize S a = SA at *
      generalize S b = SB at *
      generalize (i : Int) = N at *
      exact ⟨by simp -implicitDefEqProofs [la, lb, c1, c2, i1, i2, ee, bind_run, pure_run, lift_run, ite_run, bad_run, fnOf, runF, argE, seqM, ifM, asT, bin2, bin2v, un1, unL, asF, setM, setIxM, augIxM, augM, retM, giveM, dropM, look, take, put, frz1, ownsAny, owns, store, change, mutM, onL, isB, truM, truP, MC.notM, MC.andM, MC.orM, chain, tupM, lstM, consM, outs, callM, valM, slotM, argSlots, frzS, resolve, ioSlots, setIo, itemsM, itemsOf, PV.flat, isi_int_int, isi_int_bool, isi_int_str, isi_int_tuple, isi_int_list, isi_str_int, isi_str_bool, isi_str_str, isi_str_tuple, isi_str_list, isi_tuple_int, isi_tuple_bool, isi_tuple_str, isi_tuple_tuple, isi_tuple_list, isi_list_int, isi_list_bool, isi_list_str, isi_list_tuple, isi_list_list, isi_NoneType_int, isi_NoneType_bool, isi_NoneType_str, isi_NoneType_tuple, isi_NoneType_list, isi_bool_int, isi_bool_bool, isi_bool_str, isi_bool_tuple, isi_bool_list, strM, eqP_bb, neP_bb, andV, orV, notV, slM, slMv, asInt, str_len, addP_ii, addP_ib, addP_ss, addP_ll, addP_tt, iaddP_ii, subP_ii, mulP_ii, mulP_si, fdivP_ii, modP_ii, negP_i, absP_i, intP_i, intP_b, ltP_ii, leP_ii, gtP_ii, geP_ii, ltP_ss, leP_ss, gtP_ss, geP_ss, eqP_ii, eqP_ss, neP_ii, neP_ss, isP_b, isNotP_b, inP_1, notInP_1, lenP_s, lenP_l, lenP_t, lenP_q, listP_s, listP_l, listP_t, tupleP_l, tupleP_t, ixP_l, ixP_t, ixP_q, ixP_s, atI_nat, atI_2, atI_3, atI_4, atI_0, atI_1, atI_last, setV_l, getV_l, ixN_nat, ixN_2, ixN_3, ixN_4, ixN_0, ixN_1, popP_n, appendP_1, extendP_l, slP_to, slP_from, slP_tto, slP_tfrom, slP_lto, slP_lfrom, MC.when, fl], by simp -implicitDefEqProofs [bd1__law_first_unlike, bind_run, pure_run, lift_run, ite_run, bad_run, fnOf, runF, argE, seqM, ifM, asT, bin2, bin2v, un1, unL, asF, setM, setIxM, augIxM, augM, retM, giveM, dropM, look, take, put, frz1, ownsAny, owns, store, change, mutM, onL, isB, truM, truP, MC.notM, MC.andM, MC.orM, chain, tupM, lstM, consM, outs, callM, valM, slotM, argSlots, frzS, resolve, ioSlots, setIo, itemsM, itemsOf, PV.flat, isi_int_int, isi_int_bool, isi_int_str, isi_int_tuple, isi_int_list, isi_str_int, isi_str_bool, isi_str_str, isi_str_tuple, isi_str_list, isi_tuple_int, isi_tuple_bool, isi_tuple_str, isi_tuple_tuple, isi_tuple_list, isi_list_int, isi_list_bool, isi_list_str, isi_list_tuple, isi_list_list, isi_NoneType_int, isi_NoneType_bool, isi_NoneType_str, isi_NoneType_tuple, isi_NoneType_list, isi_bool_int, isi_bool_bool, isi_bool_str, isi_bool_tuple, isi_bool_list, strM, eqP_bb, neP_bb, andV, orV, notV, slM, slMv, asInt, str_len, addP_ii, addP_ib, addP_ss, addP_ll, addP_tt, iaddP_ii, subP_ii, mulP_ii, mulP_si, fdivP_ii, modP_ii, negP_i, absP_i, intP_i, intP_b, ltP_ii, leP_ii, gtP_ii, geP_ii, ltP_ss, leP_ss, gtP_ss, geP_ss, eqP_ii, eqP_ss, neP_ii, neP_ss, isP_b, isNotP_b, inP_1, notInP_1, lenP_s, lenP_l, lenP_t, lenP_q, listP_s, listP_l, listP_t, tupleP_l, tupleP_t, ixP_l, ixP_t, ixP_q, ixP_s, atI_nat, atI_2, atI_3, atI_4, atI_0, atI_1, atI_last, setV_l, getV_l, ixN_nat, ixN_2, ixN_3, ixN_4, ixN_0, ixN_1, popP_n, appendP_1, extendP_l, slP_to, slP_from, slP_tto, slP_tfrom, slP_lto, slP_lfrom, MC.when, fl]⟩)
  exact fn_run rfl rfl (seq_nx (ρ' := [some (false, S a), some (false, S b), some (false, .int (0 : Nat))]) rfl (seq_nx w rfl)) rfl
theorem ind_ok (oa : OkW a) (ob : OkW b) : F__law_in_dictionary [S a, S b] = some ((false, .bl (dct a b)), []) := by
  have ha : a.length ≤ 1000 := by have := oa.n; omega
  have hb : b.length ≤ 1000 := by have := ob.n; omega
  have la := lenS ha
  have lb := lenS hb
  have hf := fu_ok oa ob
  obtain ⟨l1, l2⟩ := fu_le a b
  unfold dct
  by_cases h2 : fu a b = b.length
  · rw [if_pos h2]
    have c2 : ((fu a b : Nat) : Int) = b.length := by omega
    generalize (a.length : Int) = LA at *
    generalize (b.length : Int) = LB at *
    generalize S a = SA at *
    generalize S b = SB at *
    generalize ((fu a b : Nat) : Int) = N at *
    simp -implicitDefEqProofs [F__law_in_dictionary, sem__law_in_dictionary, hf, la, lb, c2, bind_run, pure_run, lift_run, ite_run, bad_run, fnOf, runF, argE, seqM, ifM, asT, bin2, bin2v, un1, unL, asF, setM, setIxM, augIxM, augM, retM, giveM, dropM, look, take, put, frz1, ownsAny, owns, store, change, mutM, onL, isB, truM, truP, MC.notM, MC.andM, MC.orM, chain, tupM, lstM, consM, outs, callM, valM, slotM, argSlots, frzS, resolve, ioSlots, setIo, itemsM, itemsOf, PV.flat, isi_int_int, isi_int_bool, isi_int_str, isi_int_tuple, isi_int_list, isi_str_int, isi_str_bool, isi_str_str, isi_str_tuple, isi_str_list, isi_tuple_int, isi_tuple_bool, isi_tuple_str, isi_tuple_tuple, isi_tuple_list, isi_list_int, isi_list_bool, isi_list_str, isi_list_tuple, isi_list_list, isi_NoneType_int, isi_NoneType_bool, isi_NoneType_str, isi_NoneType_tuple, isi_NoneType_list, isi_bool_int, isi_bool_bool, isi_bool_str, isi_bool_tuple, isi_bool_list, strM, eqP_bb, neP_bb, andV, orV, notV, slM, slMv, asInt, str_len, addP_ii, addP_ib, addP_ss, addP_ll, addP_tt, iaddP_ii, subP_ii, mulP_ii, mulP_si, fdivP_ii, modP_ii, negP_i, absP_i, intP_i, intP_b, ltP_ii, leP_ii, gtP_ii, geP_ii, ltP_ss, leP_ss, gtP_ss, geP_ss, eqP_ii, eqP_ss, neP_ii, neP_ss, isP_b, isNotP_b, inP_1, notInP_1, lenP_s, lenP_l, lenP_t, lenP_q, listP_s, listP_l, listP_t, tupleP_l, tupleP_t, ixP_l, ixP_t, ixP_q, ixP_s, atI_nat, atI_2, atI_3, atI_4, atI_0, atI_1, atI_last, setV_l, getV_l, ixN_nat, ixN_2, ixN_3, ixN_4, ixN_0, ixN_1, popP_n, appendP_1, extendP_l, slP_to, slP_from, slP_tto, slP_tfrom, slP_lto, slP_lfrom, MC.when, fl]
  · rw [if_neg h2]
    have c2 : ¬ ((fu a b : Nat) : Int) = b.length := by omega
    by_cases h1 : fu a b = a.length
    · rw [if_pos h1]
      have c1 : ((fu a b : Nat) : Int) = a.length := by omega
      generalize (a.length : Int) = LA at *
      generalize (b.length : Int) = LB at *
      generalize S a = SA at *
      generalize S b = SB at *
      generalize ((fu a b : Nat) : Int) = N at *
      subst c1
      simp -implicitDefEqProofs [F__law_in_dictionary, sem__law_in_dictionary, hf, la, lb, c2, bind_run, pure_run, lift_run, ite_run, bad_run, fnOf, runF, argE, seqM, ifM, asT, bin2, bin2v, un1, unL, asF, setM, setIxM, augIxM, augM, retM, giveM, dropM, look, take, put, frz1, ownsAny, owns, store, change, mutM, onL, isB, truM, truP, MC.notM, MC.andM, MC.orM, chain, tupM, lstM, consM, outs, callM, valM, slotM, argSlots, frzS, resolve, ioSlots, setIo, itemsM, itemsOf, PV.flat, isi_int_int, isi_int_bool, isi_int_str, isi_int_tuple, isi_int_list, isi_str_int, isi_str_bool, isi_str_str, isi_str_tuple, isi_str_list, isi_tuple_int, isi_tuple_bool, isi_tuple_str, isi_tuple_tuple, isi_tuple_list, isi_list_int, isi_list_bool, isi_list_str, isi_list_tuple, isi_list_list, isi_NoneType_int, isi_NoneType_bool, isi_NoneType_str, isi_NoneType_tuple, isi_NoneType_list, isi_bool_int, isi_bool_bool, isi_bool_str, isi_bool_tuple, isi_bool_list, strM, eqP_bb, neP_bb, andV, orV, notV, slM, slMv, asInt, str_len, addP_ii, addP_ib, addP_ss, addP_ll, addP_tt, iaddP_ii, subP_ii, mulP_ii, mulP_si, fdivP_ii, modP_ii, negP_i, absP_i, intP_i, intP_b, ltP_ii, leP_ii, gtP_ii, geP_ii, ltP_ss, leP_ss, gtP_ss, geP_ss, eqP_ii, eqP_ss, neP_ii, neP_ss, isP_b, isNotP_b, inP_1, notInP_1, lenP_s, lenP_l, lenP_t, lenP_q, listP_s, listP_l, listP_t, tupleP_l, tupleP_t, ixP_l, ixP_t, ixP_q, ixP_s, atI_nat, atI_2, atI_3, atI_4, atI_0, atI_1, atI_last, setV_l, getV_l, ixN_nat, ixN_2, ixN_3, ixN_4, ixN_0, ixN_1, popP_n, appendP_1, extendP_l, slP_to, slP_from, slP_tto, slP_tfrom, slP_lto, slP_lfrom, MC.when, fl]
    · rw [if_neg h1]
      have c1 : ¬ ((fu a b : Nat) : Int) = a.length := by omega
      have p1 : fu a b < a.length := by omega
      have p2 : fu a b < b.length := by omega
      have i1 := ixS ha (List.getElem?_eq_getElem p1)
      have i2 := ixS hb (List.getElem?_eq_getElem p2)
      have lt : ltP (S [a[fu a b]]) (S [b[fu a b]]) = some (false, .bl (decide (a.getD (fu a b) 0 < b.getD (fu a b) 0))) := by
        rw [ltP_ss]; congr 3
        exact decide_eq_decide.mpr (by rw [List.cons_lt_cons_iff, List.getD_eq_getElem?_getD, List.getD_eq_getElem?_getD, List.getElem?_eq_getElem p1, List.getElem?_eq_getElem p2]; simp)
      generalize decide (a.getD (fu a b) 0 < b.getD (fu a b) 0) = Q at *
      generalize S [a[fu a b]] = A1 at *
      generalize S [b[fu a b]] = B1 at *
      generalize (a.length : Int) = LA at *
      generalize (b.length : Int) = LB at *
      generalize S a = SA at *
      generalize S b = SB at *
      generalize ((fu a b : Nat) : Int) = N at *
      simp -implicitDefEqProofs [F__law_in_dictionary, sem__law_in_dictionary, hf, la, lb, c1, c2, i1, i2, lt, bind_run, pure_run, lift_run, ite_run, bad_run, fnOf, runF, argE, seqM, ifM, asT, bin2, bin2v, un1, unL, asF, setM, setIxM, augIxM, augM, retM, giveM, dropM, look, take, put, frz1, ownsAny, owns, store, change, mutM, onL, isB, truM, truP, MC.notM, MC.andM, MC.orM, chain, tupM, lstM, consM, outs, callM, valM, slotM, argSlots, frzS, resolve, ioSlots, setIo, itemsM, itemsOf, PV.flat, isi_int_int, isi_int_bool, isi_int_str, isi_int_tuple, isi_int_list, isi_str_int, isi_str_bool, isi_str_str, isi_str_tuple, isi_str_list, isi_tuple_int, isi_tuple_bool, isi_tuple_str, isi_tuple_tuple, isi_tuple_list, isi_list_int, isi_list_bool, isi_list_str, isi_list_tuple, isi_list_list, isi_NoneType_int, isi_NoneType_bool, isi_NoneType_str, isi_NoneType_tuple, isi_NoneType_list, isi_bool_int, isi_bool_bool, isi_bool_str, isi_bool_tuple, isi_bool_list, strM, eqP_bb, neP_bb, andV, orV, notV, slM, slMv, asInt, str_len, addP_ii, addP_ib, addP_ss, addP_ll, addP_tt, iaddP_ii, subP_ii, mulP_ii, mulP_si, fdivP_ii, modP_ii, negP_i, absP_i, intP_i, intP_b, ltP_ii, leP_ii, gtP_ii, geP_ii, ltP_ss, leP_ss, gtP_ss, geP_ss, eqP_ii, eqP_ss, neP_ii, neP_ss, isP_b, isNotP_b, inP_1, notInP_1, lenP_s, lenP_l, lenP_t, lenP_q, listP_s, listP_l, listP_t, tupleP_l, tupleP_t, ixP_l, ixP_t, ixP_q, ixP_s, atI_nat, atI_2, atI_3, atI_4, atI_0, atI_1, atI_last, setV_l, getV_l, ixN_nat, ixN_2, ixN_3, ixN_4, ixN_0, ixN_1, popP_n, appendP_1, extendP_l, slP_to, slP_from, slP_tto, slP_tfrom, slP_lto, slP_lfrom, MC.when, fl]
open Classical in
noncomputable def slx (a b : Wd) : Bool := decide (wlt a b)
theorem ins_ok (oa : OkW a) (ob : OkW b) : F__law_in_shortlex [S a, S b] = some ((false, .bl (slx a b)), []) := by
  have ha : a.length ≤ 1000 := by have := oa.n; omega
  have hb : b.length ≤ 1000 := by have := ob.n; omega
  have la := lenS ha
  have lb := lenS hb
  have hd := ind_ok oa ob
  rw [dct_ok] at hd
  by_cases h : a.length = b.length
  · have e : slx a b = decide (a < b) := by unfold slx wlt; rw [Bool.eq_iff_iff]; simp [h]
    rw [e]
    have c : (a.length : Int) = b.length := by omega
    generalize decide (a < b) = Q at *
    generalize (a.length : Int) = LA at *
    generalize (b.length : Int) = LB at *
    generalize S a = SA at *
    generalize S b = SB at *
    subst c
    simp -implicitDefEqProofs [F__law_in_shortlex, sem__law_in_shortlex, la, lb, hd, bind_run, pure_run, lift_run, ite_run, bad_run, fnOf, runF, argE, seqM, ifM, asT, bin2, bin2v, un1, unL, asF, setM, setIxM, augIxM, augM, retM, giveM, dropM, look, take, put, frz1, ownsAny, owns, store, change, mutM, onL, isB, truM, truP, MC.notM, MC.andM, MC.orM, chain, tupM, lstM, consM, outs, callM, valM, slotM, argSlots, frzS, resolve, ioSlots, setIo, itemsM, itemsOf, PV.flat, isi_int_int, isi_int_bool, isi_int_str, isi_int_tuple, isi_int_list, isi_str_int, isi_str_bool, isi_str_str, isi_str_tuple, isi_str_list, isi_tuple_int, isi_tuple_bool, isi_tuple_str, isi_tuple_tuple, isi_tuple_list, isi_list_int, isi_list_bool, isi_list_str, isi_list_tuple, isi_list_list, isi_NoneType_int, isi_NoneType_bool, isi_NoneType_str, isi_NoneType_tuple, isi_NoneType_list, isi_bool_int, isi_bool_bool, isi_bool_str, isi_bool_tuple, isi_bool_list, strM, eqP_bb, neP_bb, andV, orV, notV, slM, slMv, asInt, str_len, addP_ii, addP_ib, addP_ss, addP_ll, addP_tt, iaddP_ii, subP_ii, mulP_ii, mulP_si, fdivP_ii, modP_ii, negP_i, absP_i, intP_i, intP_b, ltP_ii, leP_ii, gtP_ii, geP_ii, ltP_ss, leP_ss, gtP_ss, geP_ss, eqP_ii, eqP_ss, neP_ii, neP_ss, isP_b, isNotP_b, inP_1, notInP_1, lenP_s, lenP_l, lenP_t, lenP_q, listP_s, listP_l, listP_t, tupleP_l, tupleP_t, ixP_l, ixP_t, ixP_q, ixP_s, atI_nat, atI_2, atI_3, atI_4, atI_0, atI_1, atI_last, setV_l, getV_l, ixN_nat, ixN_2, ixN_3, ixN_4, ixN_0, ixN_1, popP_n, appendP_1, extendP_l, slP_to, slP_from, slP_tto, slP_tfrom, slP_lto, slP_lfrom, MC.when, fl]
  · have e : slx a b = decide ((a.length : Int) < b.length) := by unfold slx wlt; rw [Bool.eq_iff_iff]; simp [h]
    rw [e]
    have c : ¬ (a.length : Int) = b.length := by omega
    generalize (a.length : Int) = LA at *
    generalize (b.length : Int) = LB at *
    generalize S a = SA at *
    generalize S b = SB at *
    simp -implicitDefEqProofs [F__law_in_shortlex, sem__law_in_shortlex, la, lb, c, bind_run, pure_run, lift_run, ite_run, bad_run, fnOf, runF, argE, seqM, ifM, asT, bin2, bin2v, un1, unL, asF, setM, setIxM, augIxM, augM, retM, giveM, dropM, look, take, put, frz1, ownsAny, owns, store, change, mutM, onL, isB, truM, truP, MC.notM, MC.andM, MC.orM, chain, tupM, lstM, consM, outs, callM, valM, slotM, argSlots, frzS, resolve, ioSlots, setIo, itemsM, itemsOf, PV.flat, isi_int_int, isi_int_bool, isi_int_str, isi_int_tuple, isi_int_list, isi_str_int, isi_str_bool, isi_str_str, isi_str_tuple, isi_str_list, isi_tuple_int, isi_tuple_bool, isi_tuple_str, isi_tuple_tuple, isi_tuple_list, isi_list_int, isi_list_bool, isi_list_str, isi_list_tuple, isi_list_list, isi_NoneType_int, isi_NoneType_bool, isi_NoneType_str, isi_NoneType_tuple, isi_NoneType_list, isi_bool_int, isi_bool_bool, isi_bool_str, isi_bool_tuple, isi_bool_list, strM, eqP_bb, neP_bb, andV, orV, notV, slM, slMv, asInt, str_len, addP_ii, addP_ib, addP_ss, addP_ll, addP_tt, iaddP_ii, subP_ii, mulP_ii, mulP_si, fdivP_ii, modP_ii, negP_i, absP_i, intP_i, intP_b, ltP_ii, leP_ii, gtP_ii, geP_ii, ltP_ss, leP_ss, gtP_ss, geP_ss, eqP_ii, eqP_ss, neP_ii, neP_ss, isP_b, isNotP_b, inP_1, notInP_1, lenP_s, lenP_l, lenP_t, lenP_q, listP_s, listP_l, listP_t, tupleP_l, tupleP_t, ixP_l, ixP_t, ixP_q, ixP_s, atI_nat, atI_2, atI_3, atI_4, atI_0, atI_1, atI_last, setV_l, getV_l, ixN_nat, ixN_2, ixN_3, ixN_4, ixN_0, ixN_1, popP_n, appendP_1, extendP_l, slP_to, slP_from, slP_tto, slP_tfrom, slP_lto, slP_lfrom, MC.when, fl]
theorem sl_ok (ha : OkW a) (hb : OkW b) : F_shortlex_less [S a, S b] = some ((false, .bl (slx a b)), []) := by
  have ka := wkey_ok (w := a) (by have := ha.n; omega)
  have kb := wkey_ok (w := b) (by have := hb.n; omega)
  have lt : ltP (WP a) (WP b) = some (false, .bl (slx a b)) := by
    show MC.when (dOk (WP a) (WP b)) (fl (.bl (dataLt (toD (WP a)) (toD (WP b))))) = _
    have e : dOk (WP a) (WP b) = true := by
      unfold dOk
      rw [(wp_tv ha.c).shaped (by omega), (wp_tv hb.c).shaped (by omega)]
      exact alike_wd a b
    rw [e]
    show some (false, PV.bl (dataLt (wd a) (wd b))) = _
    rw [lt_wd]; rfl
  generalize WP a = WA at *
  generalize WP b = WB at *
  generalize S a = SA at *
  generalize S b = SB at *
  simp -implicitDefEqProofs [F_shortlex_less, sem_shortlex_less, ka, kb, lt, bind_run, pure_run, lift_run, ite_run, bad_run, fnOf, runF, argE, seqM, ifM, asT, bin2, bin2v, un1, unL, asF, setM, setIxM, augIxM, augM, retM, giveM, dropM, look, take, put, frz1, ownsAny, owns, store, change, mutM, onL, isB, truM, truP, MC.notM, MC.andM, MC.orM, chain, tupM, lstM, consM, outs, callM, valM, slotM, argSlots, frzS, resolve, ioSlots, setIo, itemsM, itemsOf, PV.flat, isi_int_int, isi_int_bool, isi_int_str, isi_int_tuple, isi_int_list, isi_str_int, isi_str_bool, isi_str_str, isi_str_tuple, isi_str_list, isi_tuple_int, isi_tuple_bool, isi_tuple_str, isi_tuple_tuple, isi_tuple_list, isi_list_int, isi_list_bool, isi_list_str, isi_list_tuple, isi_list_list, isi_NoneType_int, isi_NoneType_bool, isi_NoneType_str, isi_NoneType_tuple, isi_NoneType_list, isi_bool_int, isi_bool_bool, isi_bool_str, isi_bool_tuple, isi_bool_list, strM, eqP_bb, neP_bb, andV, orV, notV, slM, slMv, asInt, str_len, addP_ii, addP_ib, addP_ss, addP_ll, addP_tt, iaddP_ii, subP_ii, mulP_ii, mulP_si, fdivP_ii, modP_ii, negP_i, absP_i, intP_i, intP_b, ltP_ii, leP_ii, gtP_ii, geP_ii, ltP_ss, leP_ss, gtP_ss, geP_ss, eqP_ii, eqP_ss, neP_ii, neP_ss, isP_b, isNotP_b, inP_1, notInP_1, lenP_s, lenP_l, lenP_t, lenP_q, listP_s, listP_l, listP_t, tupleP_l, tupleP_t, ixP_l, ixP_t, ixP_q, ixP_s, atI_nat, atI_2, atI_3, atI_4, atI_0, atI_1, atI_last, setV_l, getV_l, ixN_nat, ixN_2, ixN_3, ixN_4, ixN_0, ixN_1, popP_n, appendP_1, extendP_l, slP_to, slP_from, slP_tto, slP_tfrom, slP_lto, slP_lfrom, MC.when, fl]
theorem dl_ok : F_dictionary_less [S a, S b] = some ((false, .bl (decide (a < b))), []) := by
  have lt : ltP (S a) (S b) = some (false, .bl (decide (a < b))) := ltP_ss
  generalize decide (a < b) = Q at *
  generalize S a = SA at *
  generalize S b = SB at *
  simp -implicitDefEqProofs [F_dictionary_less, sem_dictionary_less, lt, bind_run, pure_run, lift_run, ite_run, bad_run, fnOf, runF, argE, seqM, ifM, asT, bin2, bin2v, un1, unL, asF, setM, setIxM, augIxM, augM, retM, giveM, dropM, look, take, put, frz1, ownsAny, owns, store, change, mutM, onL, isB, truM, truP, MC.notM, MC.andM, MC.orM, chain, tupM, lstM, consM, outs, callM, valM, slotM, argSlots, frzS, resolve, ioSlots, setIo, itemsM, itemsOf, PV.flat, isi_int_int, isi_int_bool, isi_int_str, isi_int_tuple, isi_int_list, isi_str_int, isi_str_bool, isi_str_str, isi_str_tuple, isi_str_list, isi_tuple_int, isi_tuple_bool, isi_tuple_str, isi_tuple_tuple, isi_tuple_list, isi_list_int, isi_list_bool, isi_list_str, isi_list_tuple, isi_list_list, isi_NoneType_int, isi_NoneType_bool, isi_NoneType_str, isi_NoneType_tuple, isi_NoneType_list, isi_bool_int, isi_bool_bool, isi_bool_str, isi_bool_tuple, isi_bool_list, strM, eqP_bb, neP_bb, andV, orV, notV, slM, slMv, asInt, str_len, addP_ii, addP_ib, addP_ss, addP_ll, addP_tt, iaddP_ii, subP_ii, mulP_ii, mulP_si, fdivP_ii, modP_ii, negP_i, absP_i, intP_i, intP_b, ltP_ii, leP_ii, gtP_ii, geP_ii, ltP_ss, leP_ss, gtP_ss, geP_ss, eqP_ii, eqP_ss, neP_ii, neP_ss, isP_b, isNotP_b, inP_1, notInP_1, lenP_s, lenP_l, lenP_t, lenP_q, listP_s, listP_l, listP_t, tupleP_l, tupleP_t, ixP_l, ixP_t, ixP_q, ixP_s, atI_nat, atI_2, atI_3, atI_4, atI_0, atI_1, atI_last, setV_l, getV_l, ixN_nat, ixN_2, ixN_3, ixN_4, ixN_0, ixN_1, popP_n, appendP_1, extendP_l, slP_to, slP_from, slP_tto, slP_tfrom, slP_lto, slP_lfrom, MC.when, fl]
theorem truth_ok (q : Bool) : F__law_is_truth [.bl q, .bl q] = some ((false, .bl true), []) := by
  cases q <;> simp -implicitDefEqProofs [F__law_is_truth, sem__law_is_truth, bind_run, pure_run, lift_run, ite_run, bad_run, fnOf, runF, argE, seqM, ifM, asT, bin2, bin2v, un1, unL, asF, setM, setIxM, augIxM, augM, retM, giveM, dropM, look, take, put, frz1, ownsAny, owns, store, change, mutM, onL, isB, truM, truP, MC.notM, MC.andM, MC.orM, chain, tupM, lstM, consM, outs, callM, valM, slotM, argSlots, frzS, resolve, ioSlots, setIo, itemsM, itemsOf, PV.flat, isi_int_int, isi_int_bool, isi_int_str, isi_int_tuple, isi_int_list, isi_str_int, isi_str_bool, isi_str_str, isi_str_tuple, isi_str_list, isi_tuple_int, isi_tuple_bool, isi_tuple_str, isi_tuple_tuple, isi_tuple_list, isi_list_int, isi_list_bool, isi_list_str, isi_list_tuple, isi_list_list, isi_NoneType_int, isi_NoneType_bool, isi_NoneType_str, isi_NoneType_tuple, isi_NoneType_list, isi_bool_int, isi_bool_bool, isi_bool_str, isi_bool_tuple, isi_bool_list, strM, eqP_bb, neP_bb, andV, orV, notV, slM, slMv, asInt, str_len, addP_ii, addP_ib, addP_ss, addP_ll, addP_tt, iaddP_ii, subP_ii, mulP_ii, mulP_si, fdivP_ii, modP_ii, negP_i, absP_i, intP_i, intP_b, ltP_ii, leP_ii, gtP_ii, geP_ii, ltP_ss, leP_ss, gtP_ss, geP_ss, eqP_ii, eqP_ss, neP_ii, neP_ss, isP_b, isNotP_b, inP_1, notInP_1, lenP_s, lenP_l, lenP_t, lenP_q, listP_s, listP_l, listP_t, tupleP_l, tupleP_t, ixP_l, ixP_t, ixP_q, ixP_s, atI_nat, atI_2, atI_3, atI_4, atI_0, atI_1, atI_last, setV_l, getV_l, ixN_nat, ixN_2, ixN_3, ixN_4, ixN_0, ixN_1, popP_n, appendP_1, extendP_l, slP_to, slP_from, slP_tto, slP_tfrom, slP_lto, slP_lfrom, MC.when, fl]
end
end MC.Law
set_option Elab.async false
set_option linter.all false
set_option maxRecDepth 100000
set_option maxHeartbeats 4000000
/-! sizes; the law -/
namespace MC.Law
open PySem PySem.W
theorem wl_size {A : List Nat} {k : Nat} (h : A.length = k) : ∀ n, (wl A n).length = k ^ n
  | 0 => rfl
  | n + 1 => by
    show (ext A (wl A n)).length = _
    rw [ext_len, wl_size h n, h, Nat.pow_succ]
def vs (k : Nat) : Nat → Nat
  | 0 => 0
  | n + 1 => vs k n + k ^ n
theorem wv_size {A : List Nat} {k : Nat} (h : A.length = k) : ∀ n, (wv A n).length = vs k n
  | 0 => rfl
  | n + 1 => by
    show (wv A n ++ wl A n).length = _
    rw [List.length_append, wv_size h n, wl_size h n]; rfl
def ct (k : Nat) : Nat → Nat → Nat
  | 0, t => if t = 0 then 1 else 0
  | m + 1, t => ((List.range (t + 1)).map fun f => k ^ f * ct k m (t - f)).sum
theorem tw_size {A : List Nat} {k : Nat} (h : A.length = k) : ∀ m t, (tw A m t).length = ct k m t
  | 0, t => by unfold tw ct; split <;> rfl
  | m + 1, t => by
    show ((List.range (t + 1)).flatMap _).length = _
    rw [List.length_flatMap]
    unfold ct
    congr 1
    apply List.map_congr_left
    intro f _
    rw [List.length_flatMap, ← wl_size h f]
    have : ∀ l : List Wd, (l.map fun w => ((tw A m (t - f)).map (w :: ·)).length).sum = l.length * ct k m (t - f) := by
      intro l
      induction l with
      | nil => simp
      | cons x l ih => rw [List.map_cons, List.sum_cons, ih, List.length_map, tw_size h m, List.length_cons, Nat.succ_mul]; omega
    exact this _
def lim : Nat → Nat
  | 1 => 9
  | 2 => 5
  | 3 => 4
  | 4 => 3
  | _ => 0
theorem ct_small : ∀ k, k < 5 → ∀ m, m < 5 → ∀ t, t < 9 → t < lim k → ct k m t ≤ 1000 := by decide +kernel
theorem pw_small : ∀ k, k < 5 → ∀ t, t < 9 → t < lim k → k ^ t ≤ 900 ∧ vs k (t + 1) ≤ 1000 ∧ vs k t ≤ 1000 ∧ k ^ t * k ≤ 900 ∨ False := by decide +kernel
theorem lim_le (k : Nat) : lim k ≤ 9 := by unfold lim; split <;> omega
theorem fdl_len (A : List Nat) (t k : Nat) : (fdl A t k).length = (cu t k).length * (wl A t).length := by
  unfold fdl
  rw [List.length_flatMap]
  induction cu t k with
  | nil => simp
  | cons x l ih => rw [List.map_cons, List.sum_cons, ih, List.length_map, List.length_cons, Nat.succ_mul]; omega
theorem ba_of {A : List Nat} {k m t : Nat} (a : Al A k) (h1 : 1 ≤ k) (h4 : k ≤ 4) (hm : m ≤ 4) (ht : t < lim k) : BA A m t := by
  have hl := a.len
  have l9 := lim_le k
  have pw := fun i (hi : i ≤ t) => (pw_small k (by omega) i (by omega) (by omega)).resolve_right id
  have tn : ∀ m' t', m' ≤ m → t' ≤ t → (tw A m' t').length ≤ 1000 := fun m' t' h h' => by
    rw [tw_size hl]; exact ct_small k (by omega) m' (by omega) t' (by omega) (by omega)
  refine ⟨⟨by omega, by omega, by omega, fun i hi => by rw [wl_size hl]; exact (pw i hi).1, fun i hi => by rw [wl_size hl, hl]; exact (pw i (by omega)).2.2.2, fun m' t' h h' => tn m' t' h h'⟩,
    ⟨by omega, by omega, fun i hi => by rw [wl_size hl]; have := (pw i hi).1; omega, fun i hi => by rw [wl_size hl, hl]; have := (pw i (by omega)).2.2.2; omega, fun i hi => ?_⟩,
    fun i hi => by rw [wl_size hl, hl]; exact (pw i (by omega)).2.2.2, fun j hj => ?_, a.srt, fun c hc => by have := (a.rg c hc).2; omega⟩
  · rw [wv_size hl]
    cases i with
    | zero => exact Nat.zero_le _
    | succ i => exact (pw i (by omega)).2.1
  · have h := tn (j + 1) t (by omega) (Nat.le_refl _)
    rw [← (fdl_perm a.srt t j).length_eq, fdl_len] at h
    have : 0 < (wl A t).length := by rw [wl_size hl]; exact Nat.pow_pos (by omega)
    exact Nat.le_trans (Nat.le_mul_of_pos_right _ this) h
/-! a pair of words -/
theorem okw_fine {w : Wd} (h : OkW w) : Fine [w] := ⟨by simp, fun x hx => by rw [List.mem_singleton.mp hx]; have := h.n; omega, fun x hx => by rw [List.mem_singleton.mp hx]; exact h.c⟩
theorem law_bd {x0 x1 x2 x3 x4 x5 x6 x7 x8 x9 : Option (Bool × PV)} {a b : Wd} (ha : OkW a) (hb : OkW b) :
    bd1_law [x0, x1, x2, x3, x4, x5, x6, x7, x8, x9, some (false, S a), some (false, S b)] = some (.nx, [x0, x1, x2, x3, x4, x5, x6, x7, x8, x9, some (false, S a), some (false, S b)]) := by
  have h1 := sl_ok ha hb
  have h2 := ins_ok (a := a) (b := b) ha hb
  have h3 := dl_ok (a := a) (b := b)
  have h4 := ind_ok (a := a) (b := b) ha hb
  rw [dct_ok] at h4
  have t1 := truth_ok (slx a b)
  have t2 := truth_ok (decide (a < b))
  have hf : ∀ ws ∈ [[a], [b]], Fine ws := fun ws h => by
    rcases List.mem_cons.mp h with rfl | h
    · exact okw_fine ha
    · rw [List.mem_singleton.mp h]; exact okw_fine hb
  have s1 : sortKeyP F_model_key (.lst [.tup [S a], .tup [S b]]) = some (true, .lst ((srt [[a], [b]]).map TU)) := sort_model hf (by simp)
  have s2 : sortKeyP F__law_order (.lst [.tup [S a], .tup [S b]]) = some (true, .lst ((srt [[a], [b]]).map TU)) := sort_order hf (by simp)
  have ne := neS (tus_tv (l := srt [[a], [b]]) fun ws h => hf ws ((srt_perm _).mem_iff.mp h)) (by omega)
  generalize (srt [[a], [b]]).map TU = Z at *
  generalize slx a b = Q1 at *
  generalize decide (a < b) = Q2 at *
  generalize S a = A1 at *
  generalize S b = B1 at *
  simp -implicitDefEqProofs [bd1_law, h1, h2, h3, h4, t1, t2, s1, s2, ne, f1', f2, bind_run, pure_run, lift_run, ite_run, bad_run, fnOf, runF, argE, seqM, ifM, asT, bin2, bin2v, un1, unL, asF, setM, setIxM, augIxM, augM, retM, giveM, dropM, look, take, put, frz1, ownsAny, owns, store, change, mutM, onL, isB, truM, truP, MC.notM, MC.andM, MC.orM, chain, tupM, lstM, consM, outs, callM, valM, slotM, argSlots, frzS, resolve, ioSlots, setIo, itemsM, itemsOf, PV.flat, isi_int_int, isi_int_bool, isi_int_str, isi_int_tuple, isi_int_list, isi_str_int, isi_str_bool, isi_str_str, isi_str_tuple, isi_str_list, isi_tuple_int, isi_tuple_bool, isi_tuple_str, isi_tuple_tuple, isi_tuple_list, isi_list_int, isi_list_bool, isi_list_str, isi_list_tuple, isi_list_list, isi_NoneType_int, isi_NoneType_bool, isi_NoneType_str, isi_NoneType_tuple, isi_NoneType_list, isi_bool_int, isi_bool_bool, isi_bool_str, isi_bool_tuple, isi_bool_list, strM, eqP_bb, neP_bb, andV, orV, notV, slM, slMv, asInt, str_len, addP_ii, addP_ib, addP_ss, addP_ll, addP_tt, iaddP_ii, subP_ii, mulP_ii, mulP_si, fdivP_ii, modP_ii, negP_i, absP_i, intP_i, intP_b, ltP_ii, leP_ii, gtP_ii, geP_ii, ltP_ss, leP_ss, gtP_ss, geP_ss, eqP_ii, eqP_ss, neP_ii, neP_ss, isP_b, isNotP_b, inP_1, notInP_1, lenP_s, lenP_l, lenP_t, lenP_q, listP_s, listP_l, listP_t, tupleP_l, tupleP_t, ixP_l, ixP_t, ixP_q, ixP_s, atI_nat, atI_2, atI_3, atI_4, atI_0, atI_1, atI_last, setV_l, getV_l, ixN_nat, ixN_2, ixN_3, ixN_4, ixN_0, ixN_1, popP_n, appendP_1, extendP_l, slP_to, slP_from, slP_tto, slP_tfrom, slP_lto, slP_lfrom, MC.when, fl]
theorem law_fo {d : PV} {A : Wd} {x0 x2 x4 x5 x6 x7 x8 x9 : Option (Bool × PV)} (hd : IsDr d) (h0 : A ≠ []) (hA : A.length ≤ 10) (hc : ∀ c ∈ A, c ≤ 1000) : ∃ ρ', fo1_law [x0, some (true, d), x2, some (false, S A), x4, x5, x6, x7, x8, x9, none, none] = some (.nx, ρ') := by
  obtain ⟨d', l, e, hd', ho⟩ := pairs_ok hd h0 hA hc
  obtain ⟨ρ', h1, x10, x11, rfl⟩ := forM_pre (h := putTup (putCons (put 10 false) (putCons (put 11 false) putNil))) (f := bd1_law) PR (fun pre ρ => ∃ x10 x11, ρ = [x0, some (true, d'), x2, some (false, S A), x4, x5, x6, x7, x8, x9, x10, x11]) l (ρ := [x0, some (true, d'), x2, some (false, S A), x4, x5, x6, x7, x8, x9, none, none]) ⟨none, none, rfl⟩ (by
    rintro pre p post _ ee ⟨x10, x11, rfl⟩
    obtain ⟨o1, o2⟩ := ho p (by rw [ee]; simp)
    exact ⟨_, bind_of rfl (law_bd o1 o2), _, _, rfl⟩)
  refine ⟨[x0, some (true, d'), x2, some (false, S A), x4, x5, x6, x7, x8, x9, x10, x11], ?_⟩
  unfold fo1_law
  refine bind_of (a := l.map PR) (ρ' := [x0, some (true, d'), x2, some (false, S A), x4, x5, x6, x7, x8, x9, none, none]) ?_ h1
  generalize l.map PR = Z at *
  generalize S A = Z2 at *
  simp -implicitDefEqProofs [e, bind_run, pure_run, lift_run, ite_run, bad_run, fnOf, runF, argE, seqM, ifM, asT, bin2, bin2v, un1, unL, asF, setM, setIxM, augIxM, augM, retM, giveM, dropM, look, take, put, frz1, ownsAny, owns, store, change, mutM, onL, isB, truM, truP, MC.notM, MC.andM, MC.orM, chain, tupM, lstM, consM, outs, callM, valM, slotM, argSlots, frzS, resolve, ioSlots, setIo, itemsM, itemsOf, PV.flat, isi_int_int, isi_int_bool, isi_int_str, isi_int_tuple, isi_int_list, isi_str_int, isi_str_bool, isi_str_str, isi_str_tuple, isi_str_list, isi_tuple_int, isi_tuple_bool, isi_tuple_str, isi_tuple_tuple, isi_tuple_list, isi_list_int, isi_list_bool, isi_list_str, isi_list_tuple, isi_list_list, isi_NoneType_int, isi_NoneType_bool, isi_NoneType_str, isi_NoneType_tuple, isi_NoneType_list, isi_bool_int, isi_bool_bool, isi_bool_str, isi_bool_tuple, isi_bool_list, strM, eqP_bb, neP_bb, andV, orV, notV, slM, slMv, asInt, str_len, addP_ii, addP_ib, addP_ss, addP_ll, addP_tt, iaddP_ii, subP_ii, mulP_ii, mulP_si, fdivP_ii, modP_ii, negP_i, absP_i, intP_i, intP_b, ltP_ii, leP_ii, gtP_ii, geP_ii, ltP_ss, leP_ss, gtP_ss, geP_ss, eqP_ii, eqP_ss, neP_ii, neP_ss, isP_b, isNotP_b, inP_1, notInP_1, lenP_s, lenP_l, lenP_t, lenP_q, listP_s, listP_l, listP_t, tupleP_l, tupleP_t, ixP_l, ixP_t, ixP_q, ixP_s, atI_nat, atI_2, atI_3, atI_4, atI_0, atI_1, atI_last, setV_l, getV_l, ixN_nat, ixN_2, ixN_3, ixN_4, ixN_0, ixN_1, popP_n, appendP_1, extendP_l, slP_to, slP_from, slP_tto, slP_tfrom, slP_lto, slP_lfrom, MC.when, fl]
theorem lim_at {k : Nat} (h1 : 1 ≤ k) (h4 : k ≤ 4) : (L2.atI [PV.int 9, .int 5, .int 4, .int 3] ((k : Int) - 1)) = some (.int (lim k)) := by
  have : k = 1 ∨ k = 2 ∨ k = 3 ∨ k = 4 := by omega
  rcases this with rfl | rfl | rfl | rfl <;> rfl
theorem lim_pos {k : Nat} (h1 : 1 ≤ k) (h4 : k ≤ 4) : 0 < lim k ∧ lim k ≤ 9 := by
  have : k = 1 ∨ k = 2 ∨ k = 3 ∨ k = 4 := by omega
  rcases this with rfl | rfl | rfl | rfl <;> decide
theorem law_true : ∀ ns : List Int, ns.length ≤ 63 → F_law [.sq true (ns.map .int)] = some ((false, .bl true), []) := by
  intro ns hns
  have e0 := begin_ok ns hns
  have hd0 : IsDr (Dr ns 0 0 7 0) := ⟨_, _, _, _, _, rfl, by decide⟩
  generalize Dr ns 0 0 7 0 = d0 at e0 hd0
  obtain ⟨r1, d1, e1, p1, q1, hd1⟩ := draw_ok hd0 (many := 4) (by omega) (by omega)
  obtain ⟨k, hk⟩ : ∃ k : Nat, (1 : Int) + r1 = k := ⟨(1 + r1).toNat, by omega⟩
  have k1 : 1 ≤ k := by omega
  have k4 : k ≤ 4 := by omega
  obtain ⟨A, d2, e2, hd2, a⟩ := alphabet_ok hd1 (many := k) (by omega) (by omega)
  have hl := a.len
  have hA : A ≠ [] := by intro z; subst z; simp at hl; omega
  obtain ⟨r3, d3, e3, p3, q3, hd3⟩ := draw_ok hd2 (many := 5) (by omega) (by omega)
  obtain ⟨m, rfl⟩ := Int.eq_ofNat_of_zero_le p3
  have ix := lim_at k1 k4
  have lp := lim_pos k1 k4
  obtain ⟨r4, d4, e4, p4, q4, hd4⟩ := draw_ok hd3 (many := lim k) (by omega) (by omega)
  obtain ⟨t, rfl⟩ := Int.eq_ofNat_of_zero_le p4
  obtain ⟨r5, d5, e5, p5, q5, hd5⟩ := draw_ok hd4 (many := lim k) (by omega) (by omega)
  obtain ⟨u, rfl⟩ := Int.eq_ofNat_of_zero_le p5
  have B1 : BA A m t := ba_of a k1 k4 (by omega) (by omega)
  have B2 : BA A m u := ba_of a k1 k4 (by omega) (by omega)
  have a1 := alltup_ok B1
  have a2 := alltup_ok B2
  have l1 := ls_ok B1
  have l2 := ls_ok B2
  have n1 := B1.b.bn m t (Nat.le_refl _) (Nat.le_refl _)
  have n2 := B2.b.bn m u (Nat.le_refl _) (Nat.le_refl _)
  obtain ⟨d6, e6, hd6⟩ := ss_ok (l := tw A m t ++ tw A m u) hd5 (fun ws h => by
    rcases List.mem_append.mp h with h | h
    · exact tw_fine B1 ws h
    · exact tw_fine B2 ws h) (by rw [List.length_append]; omega)
  rw [List.map_append] at e6
  have ad := addP_ll (xs := (tw A m t).map TU) (ys := (tw A m u).map TU) (fits_of (by rw [List.length_map, List.length_map]; omega))
  have f4 : fits 4 = true := fits_of (by decide)
  obtain ⟨ρ', e7⟩ := law_fo (A := A) (x0 := some (false, .sq true (ns.map .int))) (x2 := some (false, .int k)) (x4 := some (false, .int m)) (x5 := some (false, .int (lim k))) (x6 := some (false, .int t)) (x7 := some (false, .int u)) (x8 := some (true, .lst ((tw A m t).map TU))) (x9 := some (true, .lst ((tw A m u).map TU))) hd6 hA (by omega) B1.r
  have e2' : F__law_alphabet [d1, .int k] = some ((false, S A), [d2]) := e2
  generalize (tw A m t).map TU = T1 at *
  generalize (tw A m u).map TU = T2 at *
  generalize (T1 ++ T2) = T3 at *
  generalize hSC : PV.sq true (ns.map .int) = SC at *
  generalize S A = SA at *
  generalize hki : (k : Int) = ki at *
  generalize (m : Int) = mi at *
  generalize (t : Int) = ti at *
  generalize (u : Int) = ui at *
  generalize (lim k : Int) = li at *
  refine fn_run rfl rfl (ρ := ρ') ?_ rfl
  refine seq_nx (ρ' := [some (false, SC), some (true, d0), none, none, none, none, none, none, none, none, none, none]) (by simp -implicitDefEqProofs [e0, bind_run, pure_run, lift_run, ite_run, bad_run, fnOf, runF, argE, seqM, ifM, asT, bin2, bin2v, un1, unL, asF, setM, setIxM, augIxM, augM, retM, giveM, dropM, look, take, put, frz1, ownsAny, owns, store, change, mutM, onL, isB, truM, truP, MC.notM, MC.andM, MC.orM, chain, tupM, lstM, consM, outs, callM, valM, slotM, argSlots, frzS, resolve, ioSlots, setIo, itemsM, itemsOf, PV.flat, isi_int_int, isi_int_bool, isi_int_str, isi_int_tuple, isi_int_list, isi_str_int, isi_str_bool, isi_str_str, isi_str_tuple, isi_str_list, isi_tuple_int, isi_tuple_bool, isi_tuple_str, isi_tuple_tuple, isi_tuple_list, isi_list_int, isi_list_bool, isi_list_str, isi_list_tuple, isi_list_list, isi_NoneType_int, isi_NoneType_bool, isi_NoneType_str, isi_NoneType_tuple, isi_NoneType_list, isi_bool_int, isi_bool_bool, isi_bool_str, isi_bool_tuple, isi_bool_list, strM, eqP_bb, neP_bb, andV, orV, notV, slM, slMv, asInt, str_len, addP_ii, addP_ib, addP_ss, addP_ll, addP_tt, iaddP_ii, subP_ii, mulP_ii, mulP_si, fdivP_ii, modP_ii, negP_i, absP_i, intP_i, intP_b, ltP_ii, leP_ii, gtP_ii, geP_ii, ltP_ss, leP_ss, gtP_ss, geP_ss, eqP_ii, eqP_ss, neP_ii, neP_ss, isP_b, isNotP_b, inP_1, notInP_1, lenP_s, lenP_l, lenP_t, lenP_q, listP_s, listP_l, listP_t, tupleP_l, tupleP_t, ixP_l, ixP_t, ixP_q, ixP_s, atI_nat, atI_2, atI_3, atI_4, atI_0, atI_1, atI_last, setV_l, getV_l, ixN_nat, ixN_2, ixN_3, ixN_4, ixN_0, ixN_1, popP_n, appendP_1, extendP_l, slP_to, slP_from, slP_tto, slP_tfrom, slP_lto, slP_lfrom, MC.when, fl]) ?_
  refine seq_nx (ρ' := [some (false, SC), some (true, d1), some (false, .int ki), none, none, none, none, none, none, none, none, none]) (by rw [← hk]; simp -implicitDefEqProofs [e1, bind_run, pure_run, lift_run, ite_run, bad_run, fnOf, runF, argE, seqM, ifM, asT, bin2, bin2v, un1, unL, asF, setM, setIxM, augIxM, augM, retM, giveM, dropM, look, take, put, frz1, ownsAny, owns, store, change, mutM, onL, isB, truM, truP, MC.notM, MC.andM, MC.orM, chain, tupM, lstM, consM, outs, callM, valM, slotM, argSlots, frzS, resolve, ioSlots, setIo, itemsM, itemsOf, PV.flat, isi_int_int, isi_int_bool, isi_int_str, isi_int_tuple, isi_int_list, isi_str_int, isi_str_bool, isi_str_str, isi_str_tuple, isi_str_list, isi_tuple_int, isi_tuple_bool, isi_tuple_str, isi_tuple_tuple, isi_tuple_list, isi_list_int, isi_list_bool, isi_list_str, isi_list_tuple, isi_list_list, isi_NoneType_int, isi_NoneType_bool, isi_NoneType_str, isi_NoneType_tuple, isi_NoneType_list, isi_bool_int, isi_bool_bool, isi_bool_str, isi_bool_tuple, isi_bool_list, strM, eqP_bb, neP_bb, andV, orV, notV, slM, slMv, asInt, str_len, addP_ii, addP_ib, addP_ss, addP_ll, addP_tt, iaddP_ii, subP_ii, mulP_ii, mulP_si, fdivP_ii, modP_ii, negP_i, absP_i, intP_i, intP_b, ltP_ii, leP_ii, gtP_ii, geP_ii, ltP_ss, leP_ss, gtP_ss, geP_ss, eqP_ii, eqP_ss, neP_ii, neP_ss, isP_b, isNotP_b, inP_1, notInP_1, lenP_s, lenP_l, lenP_t, lenP_q, listP_s, listP_l, listP_t, tupleP_l, tupleP_t, ixP_l, ixP_t, ixP_q, ixP_s, atI_nat, atI_2, atI_3, atI_4, atI_0, atI_1, atI_last, setV_l, getV_l, ixN_nat, ixN_2, ixN_3, ixN_4, ixN_0, ixN_1, popP_n, appendP_1, extendP_l, slP_to, slP_from, slP_tto, slP_tfrom, slP_lto, slP_lfrom, MC.when, fl]) ?_
  refine seq_nx (ρ' := [some (false, SC), some (true, d2), some (false, .int ki), some (false, SA), none, none, none, none, none, none, none, none]) (by simp -implicitDefEqProofs [e2', bind_run, pure_run, lift_run, ite_run, bad_run, fnOf, runF, argE, seqM, ifM, asT, bin2, bin2v, un1, unL, asF, setM, setIxM, augIxM, augM, retM, giveM, dropM, look, take, put, frz1, ownsAny, owns, store, change, mutM, onL, isB, truM, truP, MC.notM, MC.andM, MC.orM, chain, tupM, lstM, consM, outs, callM, valM, slotM, argSlots, frzS, resolve, ioSlots, setIo, itemsM, itemsOf, PV.flat, isi_int_int, isi_int_bool, isi_int_str, isi_int_tuple, isi_int_list, isi_str_int, isi_str_bool, isi_str_str, isi_str_tuple, isi_str_list, isi_tuple_int, isi_tuple_bool, isi_tuple_str, isi_tuple_tuple, isi_tuple_list, isi_list_int, isi_list_bool, isi_list_str, isi_list_tuple, isi_list_list, isi_NoneType_int, isi_NoneType_bool, isi_NoneType_str, isi_NoneType_tuple, isi_NoneType_list, isi_bool_int, isi_bool_bool, isi_bool_str, isi_bool_tuple, isi_bool_list, strM, eqP_bb, neP_bb, andV, orV, notV, slM, slMv, asInt, str_len, addP_ii, addP_ib, addP_ss, addP_ll, addP_tt, iaddP_ii, subP_ii, mulP_ii, mulP_si, fdivP_ii, modP_ii, negP_i, absP_i, intP_i, intP_b, ltP_ii, leP_ii, gtP_ii, geP_ii, ltP_ss, leP_ss, gtP_ss, geP_ss, eqP_ii, eqP_ss, neP_ii, neP_ss, isP_b, isNotP_b, inP_1, notInP_1, lenP_s, lenP_l, lenP_t, lenP_q, listP_s, listP_l, listP_t, tupleP_l, tupleP_t, ixP_l, ixP_t, ixP_q, ixP_s, atI_nat, atI_2, atI_3, atI_4, atI_0, atI_1, atI_last, setV_l, getV_l, ixN_nat, ixN_2, ixN_3, ixN_4, ixN_0, ixN_1, popP_n, appendP_1, extendP_l, slP_to, slP_from, slP_tto, slP_tfrom, slP_lto, slP_lfrom, MC.when, fl]) ?_
  refine seq_nx (ρ' := [some (false, SC), some (true, d3), some (false, .int ki), some (false, SA), some (false, .int mi), none, none, none, none, none, none, none]) (by simp -implicitDefEqProofs [e3, bind_run, pure_run, lift_run, ite_run, bad_run, fnOf, runF, argE, seqM, ifM, asT, bin2, bin2v, un1, unL, asF, setM, setIxM, augIxM, augM, retM, giveM, dropM, look, take, put, frz1, ownsAny, owns, store, change, mutM, onL, isB, truM, truP, MC.notM, MC.andM, MC.orM, chain, tupM, lstM, consM, outs, callM, valM, slotM, argSlots, frzS, resolve, ioSlots, setIo, itemsM, itemsOf, PV.flat, isi_int_int, isi_int_bool, isi_int_str, isi_int_tuple, isi_int_list, isi_str_int, isi_str_bool, isi_str_str, isi_str_tuple, isi_str_list, isi_tuple_int, isi_tuple_bool, isi_tuple_str, isi_tuple_tuple, isi_tuple_list, isi_list_int, isi_list_bool, isi_list_str, isi_list_tuple, isi_list_list, isi_NoneType_int, isi_NoneType_bool, isi_NoneType_str, isi_NoneType_tuple, isi_NoneType_list, isi_bool_int, isi_bool_bool, isi_bool_str, isi_bool_tuple, isi_bool_list, strM, eqP_bb, neP_bb, andV, orV, notV, slM, slMv, asInt, str_len, addP_ii, addP_ib, addP_ss, addP_ll, addP_tt, iaddP_ii, subP_ii, mulP_ii, mulP_si, fdivP_ii, modP_ii, negP_i, absP_i, intP_i, intP_b, ltP_ii, leP_ii, gtP_ii, geP_ii, ltP_ss, leP_ss, gtP_ss, geP_ss, eqP_ii, eqP_ss, neP_ii, neP_ss, isP_b, isNotP_b, inP_1, notInP_1, lenP_s, lenP_l, lenP_t, lenP_q, listP_s, listP_l, listP_t, tupleP_l, tupleP_t, ixP_l, ixP_t, ixP_q, ixP_s, atI_nat, atI_2, atI_3, atI_4, atI_0, atI_1, atI_last, setV_l, getV_l, ixN_nat, ixN_2, ixN_3, ixN_4, ixN_0, ixN_1, popP_n, appendP_1, extendP_l, slP_to, slP_from, slP_tto, slP_tfrom, slP_lto, slP_lfrom, MC.when, fl]) ?_
  refine seq_nx (ρ' := [some (false, SC), some (true, d3), some (false, .int ki), some (false, SA), some (false, .int mi), some (false, .int li), none, none, none, none, none, none]) (set_run (x := (false, .int li)) (ρ' := [some (false, SC), some (true, d3), some (false, .int ki), some (false, SA), some (false, .int mi), none, none, none, none, none, none, none]) (by simp -implicitDefEqProofs [ix, f4, lstM, consM, bind_run, pure_run, lift_run, ite_run, look, asF, bin2, bin2v, subP_ii, ixP_l, MC.when, fl])) ?_
  refine seq_nx (ρ' := [some (false, SC), some (true, d4), some (false, .int ki), some (false, SA), some (false, .int mi), some (false, .int li), some (false, .int ti), none, none, none, none, none]) (by simp -implicitDefEqProofs [e4, bind_run, pure_run, lift_run, ite_run, bad_run, fnOf, runF, argE, seqM, ifM, asT, bin2, bin2v, un1, unL, asF, setM, setIxM, augIxM, augM, retM, giveM, dropM, look, take, put, frz1, ownsAny, owns, store, change, mutM, onL, isB, truM, truP, MC.notM, MC.andM, MC.orM, chain, tupM, lstM, consM, outs, callM, valM, slotM, argSlots, frzS, resolve, ioSlots, setIo, itemsM, itemsOf, PV.flat, isi_int_int, isi_int_bool, isi_int_str, isi_int_tuple, isi_int_list, isi_str_int, isi_str_bool, isi_str_str, isi_str_tuple, isi_str_list, isi_tuple_int, isi_tuple_bool, isi_tuple_str, isi_tuple_tuple, isi_tuple_list, isi_list_int, isi_list_bool, isi_list_str, isi_list_tuple, isi_list_list, isi_NoneType_int, isi_NoneType_bool, isi_NoneType_str, isi_NoneType_tuple, isi_NoneType_list, isi_bool_int, isi_bool_bool, isi_bool_str, isi_bool_tuple, isi_bool_list, strM, eqP_bb, neP_bb, andV, orV, notV, slM, slMv, asInt, str_len, addP_ii, addP_ib, addP_ss, addP_ll, addP_tt, iaddP_ii, subP_ii, mulP_ii, mulP_si, fdivP_ii, modP_ii, negP_i, absP_i, intP_i, intP_b, ltP_ii, leP_ii, gtP_ii, geP_ii, ltP_ss, leP_ss, gtP_ss, geP_ss, eqP_ii, eqP_ss, neP_ii, neP_ss, isP_b, isNotP_b, inP_1, notInP_1, lenP_s, lenP_l, lenP_t, lenP_q, listP_s, listP_l, listP_t, tupleP_l, tupleP_t, ixP_l, ixP_t, ixP_q, ixP_s, atI_nat, atI_2, atI_3, atI_4, atI_0, atI_1, atI_last, setV_l, getV_l, ixN_nat, ixN_2, ixN_3, ixN_4, ixN_0, ixN_1, popP_n, appendP_1, extendP_l, slP_to, slP_from, slP_tto, slP_tfrom, slP_lto, slP_lfrom, MC.when, fl]) ?_
  refine seq_nx (ρ' := [some (false, SC), some (true, d5), some (false, .int ki), some (false, SA), some (false, .int mi), some (false, .int li), some (false, .int ti), some (false, .int ui), none, none, none, none]) (by simp -implicitDefEqProofs [e5, bind_run, pure_run, lift_run, ite_run, bad_run, fnOf, runF, argE, seqM, ifM, asT, bin2, bin2v, un1, unL, asF, setM, setIxM, augIxM, augM, retM, giveM, dropM, look, take, put, frz1, ownsAny, owns, store, change, mutM, onL, isB, truM, truP, MC.notM, MC.andM, MC.orM, chain, tupM, lstM, consM, outs, callM, valM, slotM, argSlots, frzS, resolve, ioSlots, setIo, itemsM, itemsOf, PV.flat, isi_int_int, isi_int_bool, isi_int_str, isi_int_tuple, isi_int_list, isi_str_int, isi_str_bool, isi_str_str, isi_str_tuple, isi_str_list, isi_tuple_int, isi_tuple_bool, isi_tuple_str, isi_tuple_tuple, isi_tuple_list, isi_list_int, isi_list_bool, isi_list_str, isi_list_tuple, isi_list_list, isi_NoneType_int, isi_NoneType_bool, isi_NoneType_str, isi_NoneType_tuple, isi_NoneType_list, isi_bool_int, isi_bool_bool, isi_bool_str, isi_bool_tuple, isi_bool_list, strM, eqP_bb, neP_bb, andV, orV, notV, slM, slMv, asInt, str_len, addP_ii, addP_ib, addP_ss, addP_ll, addP_tt, iaddP_ii, subP_ii, mulP_ii, mulP_si, fdivP_ii, modP_ii, negP_i, absP_i, intP_i, intP_b, ltP_ii, leP_ii, gtP_ii, geP_ii, ltP_ss, leP_ss, gtP_ss, geP_ss, eqP_ii, eqP_ss, neP_ii, neP_ss, isP_b, isNotP_b, inP_1, notInP_1, lenP_s, lenP_l, lenP_t, lenP_q, listP_s, listP_l, listP_t, tupleP_l, tupleP_t, ixP_l, ixP_t, ixP_q, ixP_s, atI_nat, atI_2, atI_3, atI_4, atI_0, atI_1, atI_last, setV_l, getV_l, ixN_nat, ixN_2, ixN_3, ixN_4, ixN_0, ixN_1, popP_n, appendP_1, extendP_l, slP_to, slP_from, slP_tto, slP_tfrom, slP_lto, slP_lfrom, MC.when, fl]) ?_
  refine seq_nx (ρ' := [some (false, SC), some (true, d5), some (false, .int ki), some (false, SA), some (false, .int mi), some (false, .int li), some (false, .int ti), some (false, .int ui), some (true, .lst T1), none, none, none]) (by simp -implicitDefEqProofs [a1, bind_run, pure_run, lift_run, ite_run, bad_run, fnOf, runF, argE, seqM, ifM, asT, bin2, bin2v, un1, unL, asF, setM, setIxM, augIxM, augM, retM, giveM, dropM, look, take, put, frz1, ownsAny, owns, store, change, mutM, onL, isB, truM, truP, MC.notM, MC.andM, MC.orM, chain, tupM, lstM, consM, outs, callM, valM, slotM, argSlots, frzS, resolve, ioSlots, setIo, itemsM, itemsOf, PV.flat, isi_int_int, isi_int_bool, isi_int_str, isi_int_tuple, isi_int_list, isi_str_int, isi_str_bool, isi_str_str, isi_str_tuple, isi_str_list, isi_tuple_int, isi_tuple_bool, isi_tuple_str, isi_tuple_tuple, isi_tuple_list, isi_list_int, isi_list_bool, isi_list_str, isi_list_tuple, isi_list_list, isi_NoneType_int, isi_NoneType_bool, isi_NoneType_str, isi_NoneType_tuple, isi_NoneType_list, isi_bool_int, isi_bool_bool, isi_bool_str, isi_bool_tuple, isi_bool_list, strM, eqP_bb, neP_bb, andV, orV, notV, slM, slMv, asInt, str_len, addP_ii, addP_ib, addP_ss, addP_ll, addP_tt, iaddP_ii, subP_ii, mulP_ii, mulP_si, fdivP_ii, modP_ii, negP_i, absP_i, intP_i, intP_b, ltP_ii, leP_ii, gtP_ii, geP_ii, ltP_ss, leP_ss, gtP_ss, geP_ss, eqP_ii, eqP_ss, neP_ii, neP_ss, isP_b, isNotP_b, inP_1, notInP_1, lenP_s, lenP_l, lenP_t, lenP_q, listP_s, listP_l, listP_t, tupleP_l, tupleP_t, ixP_l, ixP_t, ixP_q, ixP_s, atI_nat, atI_2, atI_3, atI_4, atI_0, atI_1, atI_last, setV_l, getV_l, ixN_nat, ixN_2, ixN_3, ixN_4, ixN_0, ixN_1, popP_n, appendP_1, extendP_l, slP_to, slP_from, slP_tto, slP_tfrom, slP_lto, slP_lfrom, MC.when, fl]) ?_
  refine seq_nx (ρ' := [some (false, SC), some (true, d5), some (false, .int ki), some (false, SA), some (false, .int mi), some (false, .int li), some (false, .int ti), some (false, .int ui), some (true, .lst T1), some (true, .lst T2), none, none]) (by simp -implicitDefEqProofs [a2, bind_run, pure_run, lift_run, ite_run, bad_run, fnOf, runF, argE, seqM, ifM, asT, bin2, bin2v, un1, unL, asF, setM, setIxM, augIxM, augM, retM, giveM, dropM, look, take, put, frz1, ownsAny, owns, store, change, mutM, onL, isB, truM, truP, MC.notM, MC.andM, MC.orM, chain, tupM, lstM, consM, outs, callM, valM, slotM, argSlots, frzS, resolve, ioSlots, setIo, itemsM, itemsOf, PV.flat, isi_int_int, isi_int_bool, isi_int_str, isi_int_tuple, isi_int_list, isi_str_int, isi_str_bool, isi_str_str, isi_str_tuple, isi_str_list, isi_tuple_int, isi_tuple_bool, isi_tuple_str, isi_tuple_tuple, isi_tuple_list, isi_list_int, isi_list_bool, isi_list_str, isi_list_tuple, isi_list_list, isi_NoneType_int, isi_NoneType_bool, isi_NoneType_str, isi_NoneType_tuple, isi_NoneType_list, isi_bool_int, isi_bool_bool, isi_bool_str, isi_bool_tuple, isi_bool_list, strM, eqP_bb, neP_bb, andV, orV, notV, slM, slMv, asInt, str_len, addP_ii, addP_ib, addP_ss, addP_ll, addP_tt, iaddP_ii, subP_ii, mulP_ii, mulP_si, fdivP_ii, modP_ii, negP_i, absP_i, intP_i, intP_b, ltP_ii, leP_ii, gtP_ii, geP_ii, ltP_ss, leP_ss, gtP_ss, geP_ss, eqP_ii, eqP_ss, neP_ii, neP_ss, isP_b, isNotP_b, inP_1, notInP_1, lenP_s, lenP_l, lenP_t, lenP_q, listP_s, listP_l, listP_t, tupleP_l, tupleP_t, ixP_l, ixP_t, ixP_q, ixP_s, atI_nat, atI_2, atI_3, atI_4, atI_0, atI_1, atI_last, setV_l, getV_l, ixN_nat, ixN_2, ixN_3, ixN_4, ixN_0, ixN_1, popP_n, appendP_1, extendP_l, slP_to, slP_from, slP_tto, slP_tfrom, slP_lto, slP_lfrom, MC.when, fl]) ?_
  refine seq_nx (ρ' := [some (false, SC), some (true, d5), some (false, .int ki), some (false, SA), some (false, .int mi), some (false, .int li), some (false, .int ti), some (false, .int ui), some (true, .lst T1), some (true, .lst T2), none, none]) (by simp -implicitDefEqProofs [l1, l2, bind_run, pure_run, lift_run, ite_run, bad_run, fnOf, runF, argE, seqM, ifM, asT, bin2, bin2v, un1, unL, asF, setM, setIxM, augIxM, augM, retM, giveM, dropM, look, take, put, frz1, ownsAny, owns, store, change, mutM, onL, isB, truM, truP, MC.notM, MC.andM, MC.orM, chain, tupM, lstM, consM, outs, callM, valM, slotM, argSlots, frzS, resolve, ioSlots, setIo, itemsM, itemsOf, PV.flat, isi_int_int, isi_int_bool, isi_int_str, isi_int_tuple, isi_int_list, isi_str_int, isi_str_bool, isi_str_str, isi_str_tuple, isi_str_list, isi_tuple_int, isi_tuple_bool, isi_tuple_str, isi_tuple_tuple, isi_tuple_list, isi_list_int, isi_list_bool, isi_list_str, isi_list_tuple, isi_list_list, isi_NoneType_int, isi_NoneType_bool, isi_NoneType_str, isi_NoneType_tuple, isi_NoneType_list, isi_bool_int, isi_bool_bool, isi_bool_str, isi_bool_tuple, isi_bool_list, strM, eqP_bb, neP_bb, andV, orV, notV, slM, slMv, asInt, str_len, addP_ii, addP_ib, addP_ss, addP_ll, addP_tt, iaddP_ii, subP_ii, mulP_ii, mulP_si, fdivP_ii, modP_ii, negP_i, absP_i, intP_i, intP_b, ltP_ii, leP_ii, gtP_ii, geP_ii, ltP_ss, leP_ss, gtP_ss, geP_ss, eqP_ii, eqP_ss, neP_ii, neP_ss, isP_b, isNotP_b, inP_1, notInP_1, lenP_s, lenP_l, lenP_t, lenP_q, listP_s, listP_l, listP_t, tupleP_l, tupleP_t, ixP_l, ixP_t, ixP_q, ixP_s, atI_nat, atI_2, atI_3, atI_4, atI_0, atI_1, atI_last, setV_l, getV_l, ixN_nat, ixN_2, ixN_3, ixN_4, ixN_0, ixN_1, popP_n, appendP_1, extendP_l, slP_to, slP_from, slP_tto, slP_tfrom, slP_lto, slP_lfrom, MC.when, fl]) ?_
  refine seq_nx (ρ' := [some (false, SC), some (true, d6), some (false, .int ki), some (false, SA), some (false, .int mi), some (false, .int li), some (false, .int ti), some (false, .int ui), some (true, .lst T1), some (true, .lst T2), none, none]) (by simp -implicitDefEqProofs [ad, e6, bind_run, pure_run, lift_run, ite_run, bad_run, fnOf, runF, argE, seqM, ifM, asT, bin2, bin2v, un1, unL, asF, setM, setIxM, augIxM, augM, retM, giveM, dropM, look, take, put, frz1, ownsAny, owns, store, change, mutM, onL, isB, truM, truP, MC.notM, MC.andM, MC.orM, chain, tupM, lstM, consM, outs, callM, valM, slotM, argSlots, frzS, resolve, ioSlots, setIo, itemsM, itemsOf, PV.flat, isi_int_int, isi_int_bool, isi_int_str, isi_int_tuple, isi_int_list, isi_str_int, isi_str_bool, isi_str_str, isi_str_tuple, isi_str_list, isi_tuple_int, isi_tuple_bool, isi_tuple_str, isi_tuple_tuple, isi_tuple_list, isi_list_int, isi_list_bool, isi_list_str, isi_list_tuple, isi_list_list, isi_NoneType_int, isi_NoneType_bool, isi_NoneType_str, isi_NoneType_tuple, isi_NoneType_list, isi_bool_int, isi_bool_bool, isi_bool_str, isi_bool_tuple, isi_bool_list, strM, eqP_bb, neP_bb, andV, orV, notV, slM, slMv, asInt, str_len, addP_ii, addP_ib, addP_ss, addP_ll, addP_tt, iaddP_ii, subP_ii, mulP_ii, mulP_si, fdivP_ii, modP_ii, negP_i, absP_i, intP_i, intP_b, ltP_ii, leP_ii, gtP_ii, geP_ii, ltP_ss, leP_ss, gtP_ss, geP_ss, eqP_ii, eqP_ss, neP_ii, neP_ss, isP_b, isNotP_b, inP_1, notInP_1, lenP_s, lenP_l, lenP_t, lenP_q, listP_s, listP_l, listP_t, tupleP_l, tupleP_t, ixP_l, ixP_t, ixP_q, ixP_s, atI_nat, atI_2, atI_3, atI_4, atI_0, atI_1, atI_last, setV_l, getV_l, ixN_nat, ixN_2, ixN_3, ixN_4, ixN_0, ixN_1, popP_n, appendP_1, extendP_l, slP_to, slP_from, slP_tto, slP_tfrom, slP_lto, slP_lfrom, MC.when, fl]) ?_
  refine seq_nx e7 rfl
end MC.Law
open PySem PySem.W PyProof.Rows
set_option maxHeartbeats 0 in
theorem PySem.Challenge.cw_lettercourt_k02_tuples_in_order_holds : PySem.Challenge.rw_lettercourt_k02_tuples_in_order.Holds := by
  w_on; o_law; k_head; (case hw => w_witness2)
  k_fill
  refine MC.law_end (l := PySem.Challenge.rw_lettercourt_k02_tuples_in_order) (k := 43) (F := MC.Law.F_law) rfl rfl (fun w h Y => PySem.W.kIn_of Y) (by decide) MC.Law.law_true ?F
  case F =>
    intro w mg fa h KX G hmg
    have T : MC.Law.Bl mg := by
      refine' ⟨PySem.W.mg_none_of KX G ?b_abs, PySem.W.mg_none_of KX G ?b_all, PySem.W.mg_none_of KX G ?b_bool, PySem.W.mg_none_of KX G ?b_int, PySem.W.mg_none_of KX G ?b_isinstance, PySem.W.mg_none_of KX G ?b_len, PySem.W.mg_none_of KX G ?b_list, PySem.W.mg_none_of KX G ?b_range, PySem.W.mg_none_of KX G ?b_reversed, PySem.W.mg_none_of KX G ?b_sorted, PySem.W.mg_none_of KX G ?b_str, PySem.W.mg_none_of KX G ?b_sum, PySem.W.mg_none_of KX G ?b_tuple⟩
      (case b_abs => k_is)
      (case b_all => k_is)
      (case b_bool => k_is)
      (case b_int => k_is)
      (case b_isinstance => k_is)
      (case b_len => k_is)
      (case b_list => k_is)
      (case b_range => k_is)
      (case b_reversed => k_is)
      (case b_sorted => k_is)
      (case b_str => k_is)
      (case b_sum => k_is)
      (case b_tuple => k_is)
    have D__law_begin := MC.dfn_mk (x := "_law_begin") (st := MC.Law.s__law_begin) (ps := ["script"]) KX G (by k_is) (by k_is) (by k_is) (by k_is) (fun _ _ _ _ _ _ us hl => match us, hl with | [_], _ => rfl)
    have D__law_draw := MC.dfn_mk (x := "_law_draw") (st := MC.Law.s__law_draw) (ps := ["d", "many"]) KX G (by k_is) (by k_is) (by k_is) (by k_is) (fun _ _ _ _ _ _ us hl => match us, hl with | [_, _], _ => rfl)
    have D__law_pop := MC.dfn_mk (x := "_law_pop") (st := MC.Law.s__law_pop) (ps := ["d", "row"]) KX G (by k_is) (by k_is) (by k_is) (by k_is) (fun _ _ _ _ _ _ us hl => match us, hl with | [_, _], _ => rfl)
    have D__law_alphabet := MC.dfn_mk (x := "_law_alphabet") (st := MC.Law.s__law_alphabet) (ps := ["d", "many"]) KX G (by k_is) (by k_is) (by k_is) (by k_is) (fun _ _ _ _ _ _ us hl => match us, hl with | [_, _], _ => rfl)
    have D__law_cuts := MC.dfn_mk (x := "_law_cuts") (st := MC.Law.s__law_cuts) (ps := ["size", "many"]) KX G (by k_is) (by k_is) (by k_is) (by k_is) (fun _ _ _ _ _ _ us hl => match us, hl with | [_, _], _ => rfl)
    have D__law_order := MC.dfn_mk (x := "_law_order") (st := MC.Law.s__law_order) (ps := ["row"]) KX G (by k_is) (by k_is) (by k_is) (by k_is) (fun _ _ _ _ _ _ us hl => match us, hl with | [_], _ => rfl)
    have D__law_words := MC.dfn_mk (x := "_law_words") (st := MC.Law.s__law_words) (ps := ["letters", "most"]) KX G (by k_is) (by k_is) (by k_is) (by k_is) (fun _ _ _ _ _ _ us hl => match us, hl with | [_, _], _ => rfl)
    have D__law_cut := MC.dfn_mk (x := "_law_cut") (st := MC.Law.s__law_cut) (ps := ["word", "row"]) KX G (by k_is) (by k_is) (by k_is) (by k_is) (fun _ _ _ _ _ _ us hl => match us, hl with | [_, _], _ => rfl)
    have D__law_all_tuples := MC.dfn_mk (x := "_law_all_tuples") (st := MC.Law.s__law_all_tuples) (ps := ["letters", "many", "total"]) KX G (by k_is) (by k_is) (by k_is) (by k_is) (fun _ _ _ _ _ _ us hl => match us, hl with | [_, _, _], _ => rfl)
    have D__law_word := MC.dfn_mk (x := "_law_word") (st := MC.Law.s__law_word) (ps := ["d", "letters", "most"]) KX G (by k_is) (by k_is) (by k_is) (by k_is) (fun _ _ _ _ _ _ us hl => match us, hl with | [_, _, _], _ => rfl)
    have D__law_pick := MC.dfn_mk (x := "_law_pick") (st := MC.Law.s__law_pick) (ps := ["d", "row"]) KX G (by k_is) (by k_is) (by k_is) (by k_is) (fun _ _ _ _ _ _ us hl => match us, hl with | [_, _], _ => rfl)
    have D__law_pairs := MC.dfn_mk (x := "_law_pairs") (st := MC.Law.s__law_pairs) (ps := ["d", "letters"]) KX G (by k_is) (by k_is) (by k_is) (by k_is) (fun _ _ _ _ _ _ us hl => match us, hl with | [_, _], _ => rfl)
    have D_word_key := MC.dfn_mk (x := "word_key") (st := MC.Law.s_word_key) (ps := ["word"]) KX G (by k_is) (by k_is) (by k_is) (by k_is) (fun _ _ _ _ _ _ us hl => match us, hl with | [_], _ => rfl)
    have D_model_key := MC.dfn_mk (x := "model_key") (st := MC.Law.s_model_key) (ps := ["words"]) KX G (by k_is) (by k_is) (by k_is) (by k_is) (fun _ _ _ _ _ _ us hl => match us, hl with | [_], _ => rfl)
    have D__law_sorting_stands := MC.dfn_mk (x := "_law_sorting_stands") (st := MC.Law.s__law_sorting_stands) (ps := ["d", "pool"]) KX G (by k_is) (by k_is) (by k_is) (by k_is) (fun _ _ _ _ _ _ us hl => match us, hl with | [_, _], _ => rfl)
    have D_words_of_length := MC.dfn_mk (x := "words_of_length") (st := MC.Law.s_words_of_length) (ps := ["letters", "length"]) KX G (by k_is) (by k_is) (by k_is) (by k_is) (fun _ _ _ _ _ _ us hl => match us, hl with | [_, _], _ => rfl)
    have D_word_tuples := MC.dfn_mk (x := "word_tuples") (st := MC.Law.s_word_tuples) (ps := ["letters", "many", "total"]) KX G (by k_is) (by k_is) (by k_is) (by k_is) (fun _ _ _ _ _ _ us hl => match us, hl with | [_, _, _], _ => rfl)
    have D__law_are_tuples := MC.dfn_mk (x := "_law_are_tuples") (st := MC.Law.s__law_are_tuples) (ps := ["told", "due"]) KX G (by k_is) (by k_is) (by k_is) (by k_is) (fun _ _ _ _ _ _ us hl => match us, hl with | [_, _], _ => rfl)
    have D__law_lists_stand := MC.dfn_mk (x := "_law_lists_stand") (st := MC.Law.s__law_lists_stand) (ps := ["letters", "many", "total", "due"]) KX G (by k_is) (by k_is) (by k_is) (by k_is) (fun _ _ _ _ _ _ us hl => match us, hl with | [_, _, _, _], _ => rfl)
    have D__law_is_truth := MC.dfn_mk (x := "_law_is_truth") (st := MC.Law.s__law_is_truth) (ps := ["told", "due"]) KX G (by k_is) (by k_is) (by k_is) (by k_is) (fun _ _ _ _ _ _ us hl => match us, hl with | [_, _], _ => rfl)
    have D_shortlex_less := MC.dfn_mk (x := "shortlex_less") (st := MC.Law.s_shortlex_less) (ps := ["word", "other"]) KX G (by k_is) (by k_is) (by k_is) (by k_is) (fun _ _ _ _ _ _ us hl => match us, hl with | [_, _], _ => rfl)
    have D__law_first_unlike := MC.dfn_mk (x := "_law_first_unlike") (st := MC.Law.s__law_first_unlike) (ps := ["one", "other"]) KX G (by k_is) (by k_is) (by k_is) (by k_is) (fun _ _ _ _ _ _ us hl => match us, hl with | [_, _], _ => rfl)
    have D__law_in_dictionary := MC.dfn_mk (x := "_law_in_dictionary") (st := MC.Law.s__law_in_dictionary) (ps := ["one", "other"]) KX G (by k_is) (by k_is) (by k_is) (by k_is) (fun _ _ _ _ _ _ us hl => match us, hl with | [_, _], _ => rfl)
    have D__law_in_shortlex := MC.dfn_mk (x := "_law_in_shortlex") (st := MC.Law.s__law_in_shortlex) (ps := ["one", "other"]) KX G (by k_is) (by k_is) (by k_is) (by k_is) (fun _ _ _ _ _ _ us hl => match us, hl with | [_, _], _ => rfl)
    have D_dictionary_less := MC.dfn_mk (x := "dictionary_less") (st := MC.Law.s_dictionary_less) (ps := ["word", "other"]) KX G (by k_is) (by k_is) (by k_is) (by k_is) (fun _ _ _ _ _ _ us hl => match us, hl with | [_, _], _ => rfl)
    have D_law := MC.dfn_mk (x := "law") (st := MC.Law.s_law) (ps := ["script"]) KX G (by k_is) (by k_is) (by k_is) (by k_is) (fun _ _ _ _ _ _ us hl => match us, hl with | [_], _ => rfl)
    exact MC.law_of hmg D_law (fun fd _ _ _ _ _ _ e s u => by subst e; exact .of_eq rfl) fun base _ _ => MC.Law.all_ok T D__law_begin D__law_draw D__law_pop D__law_alphabet D__law_cuts D__law_order D__law_words D__law_cut D__law_all_tuples D__law_word D__law_pick D__law_pairs D_word_key D_model_key D__law_sorting_stands D_words_of_length D_word_tuples D__law_are_tuples D__law_lists_stand D__law_is_truth D_shortlex_less D__law_first_unlike D__law_in_dictionary D__law_in_shortlex D_dictionary_less D_law
