import PyProof.Rows.All
import Wide.All
import OpenK.AllK
import Wide.FinOn
import HandS.ForMost
import HandS.TupAny
import HandS.More
import HandS.FStr
import HandS.IsInst
import HandS.RaiseMore
import HandS.Style
import HandS.WrittenGet
import PyProof.Rows.StrRev
import KE.GoesNew
import KE.GoesMore
import KE.GoesZip
import KE.GoesEnum
import PySem.Challenge.RW_partychoices_k32_lines_of_the_log
set_option Elab.async false
set_option linter.all false
set_option maxRecDepth 100000
set_option maxHeartbeats 2000000
/-! DL: data without addresses over the hand layer. A def's body is read as a plain function from data to data. -/
namespace DD
open PySem PySem.Spec PyProof.Rows L2

/-! ### data -/
inductive D where
  | non | bl (b : Bool) | int (i : Int) | str (s : Str)
  | tup (xs : List D) | lst (xs : List D) | rol (xs : List D) | dic (ks : List Key) (xs : List D)

mutual
def Rp (K : PySem.W.Frag) (H : Hp) : V → D → Prop
  | v, .non => v = .non
  | v, .bl b => v = .bl b
  | v, .int i => v = .int i
  | v, .str s => v = .str s
  | v, .tup ds => ∃ a xs, v = .ref a ∧ SqT K H a xs ∧ Rps K H xs ds
  | v, .lst ds => ∃ a xs, v = .ref a ∧ H a = some (.lst xs) ∧ Rps K H xs ds
  | v, .rol ds => ∃ a xs, v = .ref a ∧ SqL K H a xs ∧ Rps K H xs ds
  | v, .dic ks ds => ∃ a xs, v = .ref a ∧ H a = some (.dK (ks.zip xs)) ∧ ks.length = xs.length ∧ Rps K H xs ds
def Rps (K : PySem.W.Frag) (H : Hp) : List V → List D → Prop
  | xs, [] => xs = []
  | xs, d :: ds => ∃ y ys, xs = y :: ys ∧ Rp K H y d ∧ Rps K H ys ds
end
theorem Same.seqT {K : PySem.W.Frag} {H H' : Hp} {a : Addr} {xs : List V} (e : Same H H') (h : SqT K H a xs) : SqT K H' a xs := by
  rcases h with (h | ⟨o, h⟩) | h
  · exact .inl (.inl (e _ _ h))
  · exact .inl (.inr ⟨o, e _ _ h⟩)
  · exact .inr h
section
variable {K : PySem.W.Frag} {H H' : Hp}
mutual
theorem Rp.mono (s : Same H H') : ∀ {v : V} {d : D}, Rp K H v d → Rp K H' v d
  | v, .non, h => by simpa only [Rp] using h
  | v, .bl b, h => by simpa only [Rp] using h
  | v, .int i, h => by simpa only [Rp] using h
  | v, .str i, h => by simpa only [Rp] using h
  | v, .tup ds, h => by
    simp only [Rp] at h ⊢
    obtain ⟨a, xs, e, q, r⟩ := h
    exact ⟨a, xs, e, Same.seqT s q, Rps.mono s r⟩
  | v, .lst ds, h => by
    simp only [Rp] at h ⊢
    obtain ⟨a, xs, e, q, r⟩ := h
    exact ⟨a, xs, e, s _ _ q, Rps.mono s r⟩
  | v, .rol ds, h => by
    simp only [Rp] at h ⊢
    obtain ⟨a, xs, e, q, r⟩ := h
    exact ⟨a, xs, e, s.seq q, Rps.mono s r⟩
  | v, .dic ks ds, h => by
    simp only [Rp] at h ⊢
    obtain ⟨a, xs, e, q, l, r⟩ := h
    exact ⟨a, xs, e, s _ _ q, l, Rps.mono s r⟩
theorem Rps.mono (s : Same H H') : ∀ {xs : List V} {ds : List D}, Rps K H xs ds → Rps K H' xs ds
  | xs, [], h => by simpa only [Rps] using h
  | xs, d :: ds, h => by
    simp only [Rps] at h ⊢
    obtain ⟨y, ys, e, q, r⟩ := h
    exact ⟨y, ys, e, Rp.mono s q, Rps.mono s r⟩
end
theorem Rps.nil : Rps K H [] [] := by simp only [Rps]
theorem Rps.cons {y : V} {ys : List V} {d : D} {ds : List D} (a : Rp K H y d) (b : Rps K H ys ds) : Rps K H (y :: ys) (d :: ds) := by
  simp only [Rps]; exact ⟨y, ys, rfl, a, b⟩
theorem Rps.of_nil {xs : List V} (h : Rps K H xs []) : xs = [] := by simpa only [Rps] using h
theorem Rps.of_cons {xs : List V} {d : D} {ds : List D} (h : Rps K H xs (d :: ds)) : ∃ y ys, xs = y :: ys ∧ Rp K H y d ∧ Rps K H ys ds := by simpa only [Rps] using h
theorem Rps.length : ∀ {xs : List V} {ds : List D}, Rps K H xs ds → xs.length = ds.length
  | xs, [], h => by rw [h.of_nil]; rfl
  | xs, d :: ds, h => by
    obtain ⟨y, ys, rfl, a, b⟩ := h.of_cons
    simp [Rps.length b]
theorem Rps.get : ∀ {xs : List V} {ds : List D} {i : Nat} {d : D}, Rps K H xs ds → ds[i]? = some d → ∃ v, xs[i]? = some v ∧ Rp K H v d
  | xs, [], i, d, h, e => by simp at e
  | xs, d :: ds, 0, d', h, e => by
    obtain ⟨y, ys, rfl, a, b⟩ := h.of_cons
    simp at e; subst e
    exact ⟨y, rfl, a⟩
  | xs, d :: ds, i + 1, d', h, e => by
    obtain ⟨y, ys, rfl, a, b⟩ := h.of_cons
    simpa using Rps.get (i := i) b (by simpa using e)
theorem Rps.getV {xs : List V} {ds : List D} {i : Nat} {v : V} (h : Rps K H xs ds) (e : xs[i]? = some v) : ∃ d, ds[i]? = some d ∧ Rp K H v d := by
  have hl := h.length
  have hi : i < ds.length := by rw [← hl]; exact (List.getElem?_eq_some_iff.mp e).1
  obtain ⟨v', e', r⟩ := h.get (List.getElem?_eq_getElem hi)
  rw [e] at e'; cases e'
  exact ⟨_, List.getElem?_eq_getElem hi, r⟩
theorem Rps.of : ∀ {xs : List V} {ds : List D}, xs.length = ds.length → (∀ (i : Nat) v d, xs[i]? = some v → ds[i]? = some d → Rp K H v d) → Rps K H xs ds
  | [], [], _, _ => .nil
  | [], _ :: _, l, _ => by simp at l
  | _ :: _, [], l, _ => by simp at l
  | x :: xs, d :: ds, l, h => .cons (h 0 x d rfl rfl) (Rps.of (by simpa using l) fun i v d' a b => h (i + 1) v d' (by simpa using a) (by simpa using b))
theorem Rps.append {xs ys : List V} {ds es : List D} (a : Rps K H xs ds) (b : Rps K H ys es) : Rps K H (xs ++ ys) (ds ++ es) := by
  refine .of (by simp [a.length, b.length]) fun i v d h1 h2 => ?_
  have l := a.length
  by_cases hi : i < xs.length
  · rw [List.getElem?_append_left hi] at h1
    rw [List.getElem?_append_left (by omega)] at h2
    obtain ⟨d', e, r⟩ := a.getV h1
    rw [h2] at e; cases e; exact r
  · rw [List.getElem?_append_right (by omega)] at h1
    rw [List.getElem?_append_right (by omega)] at h2
    rw [← l] at h2
    obtain ⟨d', e, r⟩ := b.getV h1
    rw [h2] at e; cases e; exact r
theorem Rps.take {xs : List V} {ds : List D} (n : Nat) (a : Rps K H xs ds) : Rps K H (xs.take n) (ds.take n) := by
  refine .of (by simp [a.length]) fun i v d h1 h2 => ?_
  rw [List.getElem?_take] at h1 h2
  split at h1
  · rename_i h
    rw [if_pos h] at h2
    obtain ⟨d', e, r⟩ := a.getV h1
    rw [h2] at e; cases e; exact r
  · cases h1
theorem Rps.drop {xs : List V} {ds : List D} (n : Nat) (a : Rps K H xs ds) : Rps K H (xs.drop n) (ds.drop n) := by
  refine .of (by simp [a.length]) fun i v d h1 h2 => ?_
  rw [List.getElem?_drop] at h1 h2
  obtain ⟨d', e, r⟩ := a.getV h1
  rw [h2] at e; cases e; exact r
theorem Rps.set {xs : List V} {ds : List D} {v : V} {d : D} (n : Nat) (a : Rps K H xs ds) (r : Rp K H v d) : Rps K H (xs.set n v) (ds.set n d) := by
  have l := a.length
  refine .of (by simp [l]) fun i v' d' h1 h2 => ?_
  by_cases hi : n = i
  · subst hi
    by_cases hn : n < xs.length
    · rw [List.getElem?_set_self hn] at h1
      rw [List.getElem?_set_self (by omega)] at h2
      cases h1; cases h2; exact r
    · rw [List.getElem?_eq_none (by simpa using hn)] at h1; cases h1
  · rw [List.getElem?_set_ne hi] at h1 h2
    obtain ⟨d'', e, q⟩ := a.getV h1
    rw [h2] at e; cases e; exact q
theorem Rps.one {v : V} {d : D} (r : Rp K H v d) : Rps K H [v] [d] := .cons r .nil
theorem rp_non {v : V} : Rp K H v .non ↔ v = .non := by simp only [Rp]
theorem rp_bl {v : V} {b : Bool} : Rp K H v (.bl b) ↔ v = .bl b := by simp only [Rp]
theorem rp_int {v : V} {b : Int} : Rp K H v (.int b) ↔ v = .int b := by simp only [Rp]
theorem rp_str {v : V} {b : Str} : Rp K H v (.str b) ↔ v = .str b := by simp only [Rp]
theorem rp_tup {v : V} {ds : List D} : Rp K H v (.tup ds) ↔ ∃ a xs, v = .ref a ∧ SqT K H a xs ∧ Rps K H xs ds := by simp only [Rp]
theorem rp_lst {v : V} {ds : List D} : Rp K H v (.lst ds) ↔ ∃ a xs, v = .ref a ∧ H a = some (.lst xs) ∧ Rps K H xs ds := by simp only [Rp]
theorem rp_rol {v : V} {ds : List D} : Rp K H v (.rol ds) ↔ ∃ a xs, v = .ref a ∧ SqL K H a xs ∧ Rps K H xs ds := by simp only [Rp]
theorem rp_dic {v : V} {ks : List Key} {ds : List D} : Rp K H v (.dic ks ds) ↔ ∃ a xs, v = .ref a ∧ H a = some (.dK (ks.zip xs)) ∧ ks.length = xs.length ∧ Rps K H xs ds := by simp only [Rp]
end

/-! ### answers -/
structure Exn where
  cls : Str
  fs : List (Str × D)
inductive R (α : Type) where
  | ok (a : α) | err (x : Exn) | bad
def R.bind {α β : Type} : R α → (α → R β) → R β
  | .ok a, f => f a
  | .err x, _ => .err x
  | .bad, _ => .bad
instance : Monad R where
  pure := R.ok
  bind := R.bind
@[simp] theorem R.ok_bind {α β : Type} (a : α) (f : α → R β) : (R.ok a >>= f) = f a := rfl
@[simp] theorem R.bad_bind {α β : Type} (f : α → R β) : ((R.bad : R α) >>= f) = .bad := rfl
@[simp] theorem R.err_bind {α β : Type} (x : Exn) (f : α → R β) : ((R.err x : R α) >>= f) = .err x := rfl
@[simp] theorem R.pure_ok {α : Type} (a : α) : (pure a : R α) = .ok a := rfl
theorem R.of_bind {α β : Type} {x : R α} {f : α → R β} {b : β} (h : (x >>= f) = .ok b) : ∃ a, x = .ok a ∧ f a = .ok b := by
  cases x with
  | ok a => exact ⟨a, rfl, h⟩
  | err e => cases h
  | bad => cases h
def guardR (b : Bool) : R Unit := if b then .ok () else .bad
theorem of_guard {b : Bool} {u : Unit} (h : guardR b = .ok u) : b = true := by
  unfold guardR at h
  split at h
  · assumption
  · cases h
@[simp] theorem guardR_true : guardR true = .ok () := rfl

/-! ### slots -/
inductive Sl where
  | un | fz (d : D) | ow (ds : List D)
abbrev En := List Sl
def SlOk (K : PySem.W.Frag) (W F H : Hp) (o : Option V) : Sl → Prop
  | .un => True
  | .fz d => ∃ v, o = some v ∧ Rp K F v d
  | .ow ds => ∃ p vs, o = some (.ref p) ∧ H p = some (.lst vs) ∧ F p = none ∧ W p = none ∧ Rps K F vs ds
structure OkB (W F0 F H : Hp) : Prop where
  sub : Same F H
  wld : Same W H
  ext : Same F0 F
  new : ∀ b o, W b = some o → F0 b = none → F b = none
structure Ok (K : PySem.W.Frag) (W F0 : Hp) (σ : L2.St) (ρ : En) (F H : Hp) : Prop extends OkB W F0 F H where
  len : σ.length = ρ.length
  slots : ∀ (i : Nat) o s, σ[i]? = some o → ρ[i]? = some s → SlOk K W F H o s
  dist : ∀ (i j : Nat) (p : Addr) ds ds', ρ[i]? = some (.ow ds) → ρ[j]? = some (.ow ds') → σ[i]? = some (some (.ref p)) → σ[j]? = some (some (.ref p)) → i = j
section
variable {K : PySem.W.Frag} {W F0 F F' H H' : Hp} {σ : L2.St} {ρ : En}
theorem OkB.step (o : OkB W F0 F H) (a : Same F F') (b : Same H H') (c : Same F' H') (n : ∀ b o, H b = some o → F b = none → F' b = none) : OkB W F0 F' H' :=
  ⟨c, o.wld.trans b, o.ext.trans a, fun x y e1 e2 => n x y (o.wld x y e1) (o.new x y e1 e2)⟩
/-- the heap grows -/
theorem Ok.step (o : Ok K W F0 σ ρ F H) (a : Same F F') (b : Same H H') (c : Same F' H') (n : ∀ b o, H b = some o → F b = none → F' b = none) : Ok K W F0 σ ρ F' H' := by
  refine ⟨o.toOkB.step a b c n, o.len, fun i x s h1 h2 => ?_, o.dist⟩
  have q := o.slots i x s h1 h2
  cases s with
  | un => trivial
  | fz d =>
    obtain ⟨v, e, r⟩ := q
    exact ⟨v, e, r.mono a⟩
  | ow ds =>
    obtain ⟨p, vs, e, h, f, w, r⟩ := q
    exact ⟨p, vs, e, b _ _ h, n _ _ h f, w, r.mono a⟩
theorem same_upd {p : Addr} {u : HO} (h : H p = none) : Same H (upd H p u) := fun b x e => by rw [upd_ne (ne_of_none e h)]; exact e
theorem Ok.free (o : Ok K W F0 σ ρ F H) {p : Addr} (h : H p = none) : F p = none ∧ W p = none := ⟨Same.free o.sub h, Same.free o.wld h⟩
/-- a new frozen object -/
theorem Ok.push (o : Ok K W F0 σ ρ F H) {p : Addr} (u : HO) (h : H p = none) : Ok K W F0 σ ρ (upd F p u) (upd H p u) := by
  have hf := (o.free h).1
  refine o.step (same_upd hf) (same_upd h) (fun b x e => ?_) fun b x e f => ?_
  · by_cases hb : b = p
    · subst hb; rw [upd_same] at e ⊢; exact e
    · rw [upd_ne hb] at e ⊢; exact o.sub b x e
  · rw [upd_ne (ne_of_none e h)]; exact f
/-- a new object that is nobody's yet -/
theorem Ok.pushH (o : Ok K W F0 σ ρ F H) {p : Addr} (u : HO) (h : H p = none) : Ok K W F0 σ ρ F (upd H p u) := by
  have hf := (o.free h).1
  refine o.step (Same.refl _) (same_upd h) (fun b x e => ?_) fun b x e f => f
  rw [upd_ne (ne_of_none e hf)]; exact o.sub b x e
/-- no owned slot is at p -/
def Apart (σ : L2.St) (ρ : En) (p : Addr) : Prop := ∀ (i : Nat) ds, ρ[i]? = some (.ow ds) → σ[i]? ≠ some (some (.ref p))
theorem Ok.apart (o : Ok K W F0 σ ρ F H) {p : Addr} (h : H p = none) : Apart σ ρ p := fun i ds e q => by
  obtain ⟨p', vs, e', h', _⟩ := o.slots i _ _ q e
  cases e'
  rw [h] at h'; cases h'
/-- an object that is nobody's is frozen -/
theorem Ok.freezeAt (o : Ok K W F0 σ ρ F H) {p : Addr} {u : HO} (h : H p = some u) (hf : F p = none) (hw : W p = none) (ap : Apart σ ρ p) : Ok K W F0 σ ρ (upd F p u) H := by
  have s : Same F (upd F p u) := same_upd hf
  refine ⟨⟨fun b x e => ?_, o.wld, o.ext.trans s, fun b x e1 e2 => ?_⟩, o.len, fun i x sl h1 h2 => ?_, o.dist⟩
  · by_cases hb : b = p
    · subst hb; rw [upd_same] at e; cases e; exact h
    · rw [upd_ne hb] at e; exact o.sub b x e
  · rw [upd_ne (ne_of_none e1 hw)]; exact o.new b x e1 e2
  · have q := o.slots i x sl h1 h2
    cases sl with
    | un => trivial
    | fz d =>
      obtain ⟨v, e, r⟩ := q
      exact ⟨v, e, r.mono s⟩
    | ow ds =>
      obtain ⟨p', vs, e, h', f, w, r⟩ := q
      refine ⟨p', vs, e, h', ?_, w, r.mono s⟩
      rw [upd_ne (fun z => ap i ds h2 (by rw [h1, e, z]))]
      exact f
theorem Ok.rebase {F1 H1 : Hp} (o : Ok K W F1 σ ρ F H) (o1 : OkB W F0 F1 H1) : Ok K W F0 σ ρ F H :=
  ⟨⟨o.sub, o.wld, o1.ext.trans o.ext, fun b x e1 e2 => o.new b x e1 (o1.new b x e1 e2)⟩, o.len, o.slots, o.dist⟩
theorem OkB.rebase {F1 H1 : Hp} (o : OkB W F1 F H) (o1 : OkB W F0 F1 H1) : OkB W F0 F H :=
  ⟨o.sub, o.wld, o1.ext.trans o.ext, fun b x e1 e2 => o.new b x e1 (o1.new b x e1 e2)⟩
theorem Ok.self (o : Ok K W F0 σ ρ F H) : Ok K W F σ ρ F H :=
  ⟨⟨o.sub, o.wld, Same.refl _, fun b x e1 e2 => e2⟩, o.len, o.slots, o.dist⟩
/-- a slot is written with frozen data -/
theorem Ok.setF (o : Ok K W F0 σ ρ F H) (i : Nat) {v : V} {d : D} (r : Rp K F v d) : Ok K W F0 (σ.set i (some v)) (ρ.set i (.fz d)) F H := by
  refine ⟨o.toOkB, by simp [o.len], fun j x s h1 h2 => ?_, fun j k p ds ds' h1 h2 h3 h4 => ?_⟩
  · by_cases hj : i = j
    · subst hj
      have hi : i < (σ.set i (some v)).length := (List.getElem?_eq_some_iff.mp h1).1
      have hi' : i < (ρ.set i (.fz d)).length := (List.getElem?_eq_some_iff.mp h2).1
      rw [List.getElem?_set_self (by simpa using hi)] at h1
      rw [List.getElem?_set_self (by simpa using hi')] at h2
      cases h1; cases h2
      exact ⟨v, rfl, r⟩
    · rw [List.getElem?_set_ne hj] at h1 h2
      exact o.slots j x s h1 h2
  · have hj : i ≠ j := fun z => by
      subst z
      have hi' : i < (ρ.set i (.fz d)).length := (List.getElem?_eq_some_iff.mp h1).1
      rw [List.getElem?_set_self (by simpa using hi')] at h1; cases h1
    have hk : i ≠ k := fun z => by
      subst z
      have hi' : i < (ρ.set i (.fz d)).length := (List.getElem?_eq_some_iff.mp h2).1
      rw [List.getElem?_set_self (by simpa using hi')] at h2; cases h2
    rw [List.getElem?_set_ne hj] at h1 h3
    rw [List.getElem?_set_ne hk] at h2 h4
    exact o.dist j k p ds ds' h1 h2 h3 h4
/-- a slot is written with a list of its own -/
theorem Ok.setO (o : Ok K W F0 σ ρ F H) (i : Nat) {p : Addr} {vs : List V} {ds : List D} (h : H p = some (.lst vs)) (hf : F p = none) (hw : W p = none) (ap : Apart σ ρ p) (r : Rps K F vs ds) :
    Ok K W F0 (σ.set i (some (.ref p))) (ρ.set i (.ow ds)) F H := by
  refine ⟨o.toOkB, by simp [o.len], fun j x s h1 h2 => ?_, fun j k p' es es' h1 h2 h3 h4 => ?_⟩
  · by_cases hj : i = j
    · subst hj
      have hi : i < (σ.set i (some (V.ref p))).length := (List.getElem?_eq_some_iff.mp h1).1
      have hi' : i < (ρ.set i (.ow ds)).length := (List.getElem?_eq_some_iff.mp h2).1
      rw [List.getElem?_set_self (by simpa using hi)] at h1
      rw [List.getElem?_set_self (by simpa using hi')] at h2
      cases h1; cases h2
      exact ⟨p, vs, rfl, h, hf, hw, r⟩
    · rw [List.getElem?_set_ne hj] at h1 h2
      exact o.slots j x s h1 h2
  · have get : ∀ {k : Nat} {es : List D}, (ρ.set i (.ow ds))[k]? = some (.ow es) → (σ.set i (some (V.ref p)))[k]? = some (some (.ref p')) → (k = i ∧ p' = p) ∨ (i ≠ k ∧ ρ[k]? = some (.ow es) ∧ σ[k]? = some (some (.ref p'))) := fun {k es} a b => by
      by_cases hk : i = k
      · subst hk
        have hi : i < (σ.set i (some (V.ref p))).length := (List.getElem?_eq_some_iff.mp b).1
        rw [List.getElem?_set_self (by simpa using hi)] at b
        cases b
        exact .inl ⟨rfl, rfl⟩
      · rw [List.getElem?_set_ne hk] at a b
        exact .inr ⟨hk, a, b⟩
    rcases get h1 h3 with ⟨e1, e2⟩ | ⟨n1, a1, b1⟩
    · rcases get h2 h4 with ⟨e3, _⟩ | ⟨n2, a2, b2⟩
      · rw [e1, e3]
      · exact absurd (by rw [b2, e2]) (ap k es' a2)
    · rcases get h2 h4 with ⟨e3, e4⟩ | ⟨n2, a2, b2⟩
      · exact absurd (by rw [b1, e4]) (ap j es a1)
      · exact o.dist j k p' es es' a1 a2 b1 b2
/-- the list of an owned slot is changed -/
theorem Ok.setAt (o : Ok K W F0 σ ρ F H) {i : Nat} {p : Addr} {vs : List V} {ds es : List D} (hi : ρ[i]? = some (.ow ds)) (hs : σ[i]? = some (some (.ref p))) (r : Rps K F vs es) :
    Ok K W F0 σ (ρ.set i (.ow es)) F (upd H p (.lst vs)) := by
  obtain ⟨p', ws, e, h, hf, hw, _⟩ := o.slots i _ _ hs hi
  cases e
  have nf : ∀ b x, F b = some x → b ≠ p := fun b x e z => by rw [z, hf] at e; cases e
  have hil : i < ρ.length := (List.getElem?_eq_some_iff.mp hi).1
  refine ⟨⟨fun b x e => ?_, fun b x e => ?_, o.ext, o.new⟩, by simp [o.len], fun j x s h1 h2 => ?_, fun j k p' es1 es2 h1 h2 h3 h4 => ?_⟩
  · rw [upd_ne (nf b x e)]; exact o.sub b x e
  · rw [upd_ne (fun z => by rw [z, hw] at e; cases e)]; exact o.wld b x e
  · by_cases hj : i = j
    · subst hj
      rw [List.getElem?_set_self hil] at h2
      rw [hs] at h1
      cases h1; cases h2
      exact ⟨p, vs, rfl, upd_same, hf, hw, r⟩
    · rw [List.getElem?_set_ne hj] at h2
      have q := o.slots j x s h1 h2
      cases s with
      | un => trivial
      | fz d => exact q
      | ow ds' =>
        obtain ⟨p2, vs2, e, h', f, w, r'⟩ := q
        refine ⟨p2, vs2, e, ?_, f, w, r'⟩
        rw [upd_ne]
        · exact h'
        · rintro rfl
          exact hj (o.dist i j p2 ds ds' hi h2 hs (by rw [h1, e]))
  · have back : ∀ {k : Nat} {es3 : List D}, (ρ.set i (.ow es))[k]? = some (.ow es3) → ∃ es4, ρ[k]? = some (.ow es4) := fun {k es3} a => by
      by_cases hk : i = k
      · subst hk; exact ⟨ds, hi⟩
      · rw [List.getElem?_set_ne hk] at a; exact ⟨es3, a⟩
    obtain ⟨q1, g1⟩ := back h1
    obtain ⟨q2, g2⟩ := back h2
    exact o.dist j k p' q1 q2 g1 g2 h3 h4
def frz (i : Nat) (ρ : En) : En := match ρ[i]? with
  | some (.ow ds) => ρ.set i (.fz (.lst ds))
  | _ => ρ
theorem Ok.freeze (o : Ok K W F0 σ ρ F H) (i : Nat) : ∃ F', Same F F' ∧ Ok K W F0 σ (frz i ρ) F' H := by
  unfold frz
  split
  · rename_i ds hi
    have hil : i < ρ.length := (List.getElem?_eq_some_iff.mp hi).1
    have hs : σ[i]? = some (σ[i]'(by rw [o.len]; exact hil)) := List.getElem?_eq_getElem _
    obtain ⟨p, vs, e, h, hf, hw, r⟩ := o.slots i _ _ hs hi
    rw [e] at hs
    have s : Same F (upd F p (.lst vs)) := same_upd hf
    refine ⟨upd F p (.lst vs), s, ⟨fun b x e => ?_, o.wld, o.ext.trans s, fun b x e1 e2 => ?_⟩, by simp [o.len], fun j x sl h1 h2 => ?_, fun j k p' es es' h1 h2 h3 h4 => ?_⟩
    · by_cases hb : b = p
      · subst hb; rw [upd_same] at e; cases e; exact h
      · rw [upd_ne hb] at e; exact o.sub b x e
    · rw [upd_ne (ne_of_none e1 hw)]; exact o.new b x e1 e2
    · by_cases hj : i = j
      · subst hj
        rw [List.getElem?_set_self hil] at h2
        rw [hs] at h1
        cases h1; cases h2
        exact ⟨_, rfl, rp_lst.mpr ⟨p, vs, rfl, upd_same, r.mono s⟩⟩
      · rw [List.getElem?_set_ne hj] at h2
        have q := o.slots j x sl h1 h2
        cases sl with
        | un => trivial
        | fz d =>
          obtain ⟨v, e, r'⟩ := q
          exact ⟨v, e, r'.mono s⟩
        | ow ds' =>
          obtain ⟨p2, vs2, e2, h', f, w, r'⟩ := q
          refine ⟨p2, vs2, e2, h', ?_, w, r'.mono s⟩
          rw [upd_ne]
          · exact f
          · rintro rfl
            exact hj (o.dist i j p2 ds ds' hi h2 hs (by rw [h1, e2]))
    · have ne : ∀ {k : Nat} {es : List D}, (ρ.set i (.fz (.lst ds)))[k]? = some (.ow es) → i ≠ k := fun {k es} a z => by
        subst z
        rw [List.getElem?_set_self hil] at a; cases a
      have n1 := ne h1
      have n2 := ne h2
      rw [List.getElem?_set_ne n1] at h1
      rw [List.getElem?_set_ne n2] at h2
      exact o.dist j k p' es es' h1 h2 h3 h4
  · exact ⟨F, Same.refl _, o⟩
end
end DD

namespace DD
open PySem PySem.Spec PyProof.Rows L2

/-! ### expressions -/
def DE (K : PySem.W.Frag) (t : TE) (f : En → R D) : Prop := ∀ (W F0 : Hp) (σ : L2.St) (ρ : En) (F H : Hp) (d : D) (Q : VK), Ok K W F0 σ ρ F H → f ρ = .ok d →
  (∀ v F' H', Ok K W F0 σ ρ F' H' → Same F F' → Rp K F' v d → Q v H') → t σ H Q
structure PD (X : Cx) (e : Expr) (t : TE) (f : En → R D) : Prop where
  pe : PE X e t
  de : DE X.K t f
def DT (K : PySem.W.Frag) (t : TT) (f : En → R Bool) : Prop := ∀ (W F0 : Hp) (σ : L2.St) (ρ : En) (F H : Hp) (b : Bool) (Q : Bool → Hp → Prop), Ok K W F0 σ ρ F H → f ρ = .ok b →
  (∀ F' H', Ok K W F0 σ ρ F' H' → Same F F' → Q b H') → t σ H Q
structure PTD (X : Cx) (e : Expr) (t : TT) (f : En → R Bool) : Prop where
  pe : PT X e t
  de : DT X.K t f
structure PWD (X : Cx) (e : Expr) (t : TT) (f : En → R Bool) : Prop where
  pe : PW X e t
  de : DT X.K t f
def DAs (K : PySem.W.Frag) (t : TA) (f : En → R (List D)) : Prop := ∀ (W F0 : Hp) (σ : L2.St) (ρ : En) (F H : Hp) (ds : List D) (Q : List V → Hp → Prop), Ok K W F0 σ ρ F H → f ρ = .ok ds →
  (∀ vs F' H', Ok K W F0 σ ρ F' H' → Same F F' → Rps K F' vs ds → Q vs H') → t σ H Q
structure PAD (X : Cx) (es : List Expr) (t : TA) (f : En → R (List D)) : Prop where
  pe : PA X es t
  de : DAs X.K t f
/-- a list (perhaps owned by a slot): its items are frozen data -/
def DLs (K : PySem.W.Frag) (t : TE) (f : En → R (List D)) : Prop := ∀ (W F0 : Hp) (σ : L2.St) (ρ : En) (F H : Hp) (ds : List D) (Q : VK), Ok K W F0 σ ρ F H → f ρ = .ok ds →
  (∀ p vs F' H', Ok K W F0 σ ρ F' H' → Same F F' → H' p = some (.lst vs) → Rps K F' vs ds → Q (.ref p) H') → t σ H Q
structure PL (X : Cx) (e : Expr) (t : TE) (f : En → R (List D)) : Prop where
  pe : PE X e t
  de : DLs X.K t f
/-- a new list, nobody's yet -/
def DF (K : PySem.W.Frag) (t : TE) (f : En → R (List D)) : Prop := ∀ (W F0 : Hp) (σ : L2.St) (ρ : En) (F H : Hp) (ds : List D) (Q : VK), Ok K W F0 σ ρ F H → f ρ = .ok ds →
  (∀ p vs F' H', Ok K W F0 σ ρ F' H' → Same F F' → H' p = some (.lst vs) → F' p = none → W p = none → Apart σ ρ p → Rps K F' vs ds → Q (.ref p) H') → t σ H Q
structure PF (X : Cx) (e : Expr) (t : TE) (f : En → R (List D)) : Prop where
  pe : PE X e t
  de : DF X.K t f
def toLst (f : En → R (List D)) : En → R D := fun ρ => f ρ >>= fun ds => .ok (.lst ds)
def ofLst : D → R (List D)
  | .lst ds => .ok ds
  | _ => .bad
theorem PF.pl {X : Cx} {e : Expr} {t : TE} {f : En → R (List D)} (h : PF X e t f) : PL X e t f :=
  ⟨h.pe, fun W F0 σ ρ F H ds Q o e q => h.de W F0 σ ρ F H ds Q o e fun p vs F' H' o' s hp _ _ _ r => q p vs F' H' o' s hp r⟩
theorem PF.pd {X : Cx} {e : Expr} {t : TE} {f : En → R (List D)} (h : PF X e t f) : PD X e t (toLst f) := by
  refine ⟨h.pe, fun W F0 σ ρ F H d Q o e q => ?_⟩
  obtain ⟨ds, e1, e2⟩ := R.of_bind e
  cases e2
  refine h.de W F0 σ ρ F H ds Q o e1 fun p vs F' H' o' s hp hf hw ap r => ?_
  have s' : Same F' (upd F' p (.lst vs)) := same_upd hf
  exact q _ _ _ (o'.freezeAt hp hf hw ap) (s.trans s') (rp_lst.mpr ⟨p, vs, rfl, upd_same, r.mono s'⟩)
theorem PD.pl {X : Cx} {e : Expr} {t : TE} {f : En → R D} (h : PD X e t f) : PL X e t (fun ρ => f ρ >>= ofLst) := by
  refine ⟨h.pe, fun W F0 σ ρ F H ds Q o e q => ?_⟩
  obtain ⟨d, e1, e2⟩ := R.of_bind e
  cases d <;> first | (cases e2; done) | skip
  rename_i ds'
  cases e2
  refine h.de W F0 σ ρ F H _ Q o e1 fun v F' H' o' s r => ?_
  obtain ⟨a, xs, rfl, ha, r⟩ := rp_lst.mp r
  exact q a xs F' H' o' s (o'.sub _ _ ha) r
/-! names and constants -/
def eVar (i : Nat) : En → R D := fun ρ => match ρ[i]? with
  | some (.fz d) => .ok d
  | _ => .bad
def eOwn (i : Nat) : En → R (List D) := fun ρ => match ρ[i]? with
  | some (.ow ds) => .ok ds
  | _ => .bad
def eC (d : D) : En → R D := fun _ => .ok d
section
variable {X : Cx} {pos : Pos} {j : Nat}
theorem slot_at {K : PySem.W.Frag} {W F0 F H : Hp} {σ : L2.St} {ρ : En} (o : Ok K W F0 σ ρ F H) {i : Nat} {s : Sl} (h : ρ[i]? = some s) : ∃ x, σ[i]? = some x ∧ SlOk K W F H x s := by
  have hi : i < σ.length := by rw [o.len]; exact (List.getElem?_eq_some_iff.mp h).1
  exact ⟨_, List.getElem?_eq_getElem hi, o.slots i _ _ (List.getElem?_eq_getElem hi) h⟩
theorem pdv (i : Nat) {x : Str} {pos : Pos} (hN : X.N[i]? = some x := by rfl) (hv : Vis X.env.scope x := by first | exact Or.inl rfl | exact Or.inr (Or.inl rfl) | exact Or.inr (Or.inr rfl)) (hd : (x == ("__debug__" : Str)) = false := by decide)
    (hcd : (x == ("__classdict__" : Str)) = false := by decide) : PD X (.Name x pos) (tVar i) (eVar i) := by
  refine ⟨pe_var hN hv hd hcd, fun W F0 σ ρ F H d Q o e q => ?_⟩
  unfold eVar at e
  split at e
  · rename_i d' hd
    cases e
    obtain ⟨x, h1, v, e, r⟩ := slot_at o hd
    exact ⟨v, by rw [h1, e], q v F H o (Same.refl _) r⟩
  · cases e
theorem plv (i : Nat) {x : Str} {pos : Pos} (hN : X.N[i]? = some x := by rfl) (hv : Vis X.env.scope x := by first | exact Or.inl rfl | exact Or.inr (Or.inl rfl) | exact Or.inr (Or.inr rfl)) (hd : (x == ("__debug__" : Str)) = false := by decide)
    (hcd : (x == ("__classdict__" : Str)) = false := by decide) : PL X (.Name x pos) (tVar i) (eOwn i) := by
  refine ⟨pe_var hN hv hd hcd, fun W F0 σ ρ F H d Q o e q => ?_⟩
  unfold eOwn at e
  split at e
  · rename_i d' hd
    cases e
    obtain ⟨x, h1, p, vs, e, hp, hf, hw, r⟩ := slot_at o hd
    exact ⟨_, by rw [h1, e], q p vs F H o (Same.refl _) hp r⟩
  · cases e
theorem de_c {K : PySem.W.Frag} {v : V} {d : D} (h : ∀ F, Rp K F v d) : DE K (tC v) (eC d) := fun W F0 σ ρ F H d Q o e q => by
  cases e
  exact q v F H o (Same.refl _) (h F)
theorem pd_int {i : Int} : PD X (.Constant (.int i) j pos) (tC (.int i)) (eC (.int i)) := ⟨pe_int, de_c fun _ => rp_int.mpr rfl⟩
theorem pd_bl {i : Bool} : PD X (.Constant (.bool i) j pos) (tC (.bl i)) (eC (.bl i)) := ⟨pe_bl, de_c fun _ => rp_bl.mpr rfl⟩
theorem pd_str {i : Str} : PD X (.Constant (.str i) j pos) (tC (.str i)) (eC (.str i)) := ⟨pe_str, de_c fun _ => rp_str.mpr rfl⟩
theorem pd_non : PD X (.Constant .none j pos) (tC .non) (eC .non) := ⟨pe_non, de_c fun _ => rp_non.mpr rfl⟩
theorem pd_glob {x : Str} {v : V} {u : Value} {d : D} (hm : X.mg x = some u) (r : RelV v u) (hd : ∀ F, Rp X.K F v d) (hg : Gl X x := by rfl) (h : (x == ("__debug__" : Str)) = false := by decide) : PD X (.Name x pos) (tC v) (eC d) :=
  ⟨pe_glob hg hm r h, de_c hd⟩
end
/-! two operands -/
def eBin (g : D → D → R D) (a b : En → R D) : En → R D := fun ρ => a ρ >>= fun x => b ρ >>= fun y => g x y
def DR2 (K : PySem.W.Frag) (r : R2) (g : D → D → R D) : Prop := ∀ (W F0 : Hp) (σ : L2.St) (ρ : En) (F H : Hp) (x y : V) (dx dy d : D) (Q : VK), Ok K W F0 σ ρ F H → Rp K F x dx → Rp K F y dy → g dx dy = .ok d →
  (∀ v F' H', Ok K W F0 σ ρ F' H' → Same F F' → Rp K F' v d → Q v H') → r x y H Q
theorem de_bin {K : PySem.W.Frag} {r : R2} {g : D → D → R D} {ta tb : TE} {a b : En → R D} (hr : DR2 K r g) (ha : DE K ta a) (hb : DE K tb b) : DE K (tOp r ta tb) (eBin g a b) := fun W F0 σ ρ F H d Q o e q => by
  obtain ⟨dx, e1, e⟩ := R.of_bind e
  obtain ⟨dy, e2, e⟩ := R.of_bind e
  refine ha W F0 σ ρ F H dx _ o e1 fun x F1 H1 o1 s1 r1 => ?_
  refine hb W F0 σ ρ F1 H1 dy _ o1 e2 fun y F2 H2 o2 s2 r2 => ?_
  exact hr W F0 σ ρ F2 H2 x y dx dy d Q o2 (r1.mono s2) r2 e fun v F3 H3 o3 s3 r3 => q v F3 H3 o3 ((s1.trans s2).trans s3) r3
section
variable {X : Cx} {pos : Pos} {a b : Expr} {ta tb : TE} {fa fb : En → R D}
theorem pd_op {op : Operator} {r : R2} {g : D → D → R D} (ho : OpR X (binaryOp op) r) (hr : DR2 X.K r g) (ha : PD X a ta fa) (hb : PD X b tb fb) : PD X (.BinOp a op b pos) (tOp r ta tb) (eBin g fa fb) :=
  ⟨pe_op ho ha.pe hb.pe, de_bin hr ha.de hb.de⟩
theorem pd_cmp {op : CmpOp} {r : R2} {g : D → D → R D} (ho : OpR X (compareOp op) r) (hr : DR2 X.K r g) (ha : PD X a ta fa) (hb : PD X b tb fb) (hm : behindInMarks op b = false := by first | exact nomark _ | rfl | with_unfolding_all rfl) :
    PD X (.Compare a [op] [b] pos) (tOp r ta tb) (eBin g fa fb) := ⟨pe_cmpR ho ha.pe hb.pe hm, de_bin hr ha.de hb.de⟩
end
/-! the operators -/
theorem line_eq : (sizeLine : Nat) = 16777216 := sizeLine_eq
def bInt (g : Int → Int → D) : D → D → R D
  | .int i, .int j => .ok (g i j)
  | _, _ => .bad
theorem dr_int {K : PySem.W.Frag} {g : Int → Int → V} {g' : Int → Int → D} (h : ∀ i j F, Rp K F (g i j) (g' i j)) : DR2 K (rI0 g) (bInt g') := fun W F0 σ ρ F H x y dx dy d Q o rx ry e q => by
  unfold bInt at e
  split at e
  · cases e
    exact ⟨_, _, rp_int.mp rx, rp_int.mp ry, q _ F H o (Same.refl _) (h _ _ F)⟩
  · cases e
def bIntC (C : Int → Int → Bool) (g : Int → Int → D) : D → D → R D
  | .int i, .int j => guardR (C i j) >>= fun _ => .ok (g i j)
  | _, _ => .bad
theorem dr_intC {K : PySem.W.Frag} {P : Int → Int → Prop} {C : Int → Int → Bool} {g : Int → Int → V} {g' : Int → Int → D} (hp : ∀ i j, C i j = true → P i j) (h : ∀ i j F, Rp K F (g i j) (g' i j)) : DR2 K (rI P g) (bIntC C g') :=
  fun W F0 σ ρ F H x y dx dy d Q o rx ry e q => by
  unfold bIntC at e
  split at e
  · obtain ⟨u, e1, e2⟩ := R.of_bind e
    cases e2
    exact ⟨_, _, rp_int.mp rx, rp_int.mp ry, hp _ _ (of_guard e1), q _ F H o (Same.refl _) (h _ _ F)⟩
  · cases e
def small (n : Nat) : Bool := decide (n ≤ 16777216)
theorem of_small {n : Nat} (h : small n = true) : n ≤ sizeLine := by rw [line_eq]; exact of_decide_eq_true h
def dAdd : D → D → R D
  | .int i, .int j => .ok (.int (i + j))
  | .str a, .str b => guardR (small (a.length + b.length)) >>= fun _ => .ok (.str (a ++ b))
  | .tup a, .tup b => guardR (small (a.length + b.length)) >>= fun _ => .ok (.tup (a ++ b))
  | .lst a, .lst b => guardR (small (a.length + b.length)) >>= fun _ => .ok (.lst (a ++ b))
  | _, _ => .bad
def rAddI : R2 := rI0 fun i j => .int (i + j)
def rAddS : R2 := fun x y H Q => ∃ i j, x = .str i ∧ y = .str j ∧ i.length + j.length ≤ sizeLine ∧ Q (.str (i ++ j)) H
def rAddA (K : PySem.W.Frag) : R2 := fun x y H Q => rAddI x y H Q ∨ (rAddS x y H Q ∨ (rCatA K x y H Q ∨ rCat x y H Q))
section
variable {X : Cx}
theorem op_addA : OpR X (binaryOp .Add) (rAddA X.K) := op_add.or (OpR.or (r := rAddS) op_add_str (op_catA.or op_cat))
theorem dr_add {K : PySem.W.Frag} : DR2 K (rAddA K) dAdd := fun W F0 σ ρ F H x y dx dy d Q o rx ry e q => by
  unfold dAdd at e
  split at e
  · cases e
    exact .inl ⟨_, _, rp_int.mp rx, rp_int.mp ry, q _ F H o (Same.refl _) (rp_int.mpr rfl)⟩
  · obtain ⟨u, e1, e2⟩ := R.of_bind e
    cases e2
    exact .inr (.inl ⟨_, _, rp_str.mp rx, rp_str.mp ry, of_small (of_guard e1), q _ F H o (Same.refl _) (rp_str.mpr rfl)⟩)
  · obtain ⟨u, e1, e2⟩ := R.of_bind e
    cases e2
    rename_i as bs
    obtain ⟨a, xs, rfl, ha, r1⟩ := rp_tup.mp rx
    obtain ⟨b, ys, rfl, hb, r2⟩ := rp_tup.mp ry
    have l1 := r1.length
    have l2 := r2.length
    refine .inr (.inr (.inl ⟨a, b, xs, ys, rfl, rfl, Same.seqT o.sub ha, Same.seqT o.sub hb, by rw [l1, l2]; exact of_small (of_guard e1), fun z => ?_, fun _ z => ?_, fun _ _ p hp => ?_⟩))
    · subst z
      have z : as = [] := List.eq_nil_of_length_eq_zero (by simpa using l1.symm)
      subst z
      exact q _ F H o (Same.refl _) (rp_tup.mpr ⟨b, ys, rfl, hb, by simpa using r2⟩)
    · subst z
      have z : bs = [] := List.eq_nil_of_length_eq_zero (by simpa using l2.symm)
      subst z
      exact q _ F H o (Same.refl _) (rp_tup.mpr ⟨a, xs, rfl, ha, by simpa using r1⟩)
    · have s := same_upd (u := .tup (xs ++ ys)) (o.free hp).1
      exact q _ _ _ (o.push _ hp) s (rp_tup.mpr ⟨p, _, rfl, SqT.of upd_same, (r1.append r2).mono s⟩)
  · obtain ⟨u, e1, e2⟩ := R.of_bind e
    cases e2
    obtain ⟨a, xs, rfl, ha, r1⟩ := rp_lst.mp rx
    obtain ⟨b, ys, rfl, hb, r2⟩ := rp_lst.mp ry
    have l1 := r1.length
    have l2 := r2.length
    refine .inr (.inr (.inr ⟨a, b, xs, ys, rfl, rfl, o.sub _ _ ha, o.sub _ _ hb, by rw [l1, l2]; exact of_small (of_guard e1), fun p hp => ?_⟩))
    have s := same_upd (u := .lst (xs ++ ys)) (o.free hp).1
    exact q _ _ _ (o.push _ hp) s (rp_lst.mpr ⟨p, _, rfl, upd_same, (r1.append r2).mono s⟩)
  · cases e
end
def dSub : D → D → R D := bInt fun i j => .int (i - j)
theorem dr_sub {K : PySem.W.Frag} : DR2 K (rI0 fun i j => .int (i - j)) dSub := dr_int fun _ _ _ => rp_int.mpr rfl
def within64 (i : Int) : Bool := decide (-(2 ^ 64) < i) && decide (i < 2 ^ 64)
theorem of_within64 {i : Int} (h : within64 i = true) : -(2 ^ 64) < i ∧ i < 2 ^ 64 := by
  unfold within64 at h
  rw [Bool.and_eq_true] at h
  exact ⟨of_decide_eq_true h.1, of_decide_eq_true h.2⟩
def dMul : D → D → R D := bIntC (fun i j => within64 i || within64 j) fun i j => .int (i * j)
theorem dr_mul {K : PySem.W.Frag} : DR2 K (rI CMul fun i j => .int (i * j)) dMul := dr_intC (fun i j h => by
  rw [Bool.or_eq_true] at h
  rcases h with h | h
  · exact .inl (of_within64 h)
  · exact .inr (of_within64 h)) fun _ _ _ => rp_int.mpr rfl
def dFdiv : D → D → R D := bIntC (fun _ j => decide (0 < j) && decide (j < 1073741824)) fun i j => .int (i / j)
theorem dr_fdiv {K : PySem.W.Frag} : DR2 K (rI CDiv fun i j => .int (i / j)) dFdiv := dr_intC (fun i j h => by
  rw [Bool.and_eq_true] at h
  exact ⟨of_decide_eq_true h.1, of_decide_eq_true h.2⟩) fun _ _ _ => rp_int.mpr rfl
def dMod : D → D → R D := bIntC (fun _ j => decide (0 < j)) fun i j => .int (i % j)
theorem dr_mod {K : PySem.W.Frag} : DR2 K (rI (fun _ j => 0 < j) fun i j => .int (i % j)) dMod := dr_intC (fun i j h => of_decide_eq_true h) fun _ _ _ => rp_int.mpr rfl
def dPow : D → D → R D := bIntC (fun i j => decide (0 ≤ j) && decide (j ≤ 1000000) && decide (i.natAbs < 2 ^ 64)) fun i j => .int (i ^ j.toNat)
theorem dr_pow {K : PySem.W.Frag} : DR2 K (rI CPow fun i j => .int (i ^ j.toNat)) dPow := dr_intC (fun i j h => by
  rw [Bool.and_eq_true, Bool.and_eq_true] at h
  exact ⟨of_decide_eq_true h.1.1, of_decide_eq_true h.1.2, of_decide_eq_true h.2⟩) fun _ _ _ => rp_int.mpr rfl
def dLt : D → D → R D := bInt fun i j => .bl (decide (i < j))
def dLe : D → D → R D := bInt fun i j => .bl (decide (i ≤ j))
def dGt : D → D → R D := bInt fun i j => .bl (decide (j < i))
def dGe : D → D → R D := bInt fun i j => .bl (decide (j ≤ i))
theorem dr_lt {K : PySem.W.Frag} : DR2 K (rI0 fun i j => .bl (decide (i < j))) dLt := dr_int fun _ _ _ => rp_bl.mpr rfl
theorem dr_le {K : PySem.W.Frag} : DR2 K (rI0 fun i j => .bl (decide (i ≤ j))) dLe := dr_int fun _ _ _ => rp_bl.mpr rfl
theorem dr_gt {K : PySem.W.Frag} : DR2 K (rI0 fun i j => .bl (decide (j < i))) dGt := dr_int fun _ _ _ => rp_bl.mpr rfl
theorem dr_ge {K : PySem.W.Frag} : DR2 K (rI0 fun i j => .bl (decide (j ≤ i))) dGe := dr_int fun _ _ _ => rp_bl.mpr rfl
/-- == of scalars -/
def sEq : D → D → Option Bool
  | .non, .non => some true
  | .int i, .int j => some (i == j)
  | .bl i, .bl j => some (i == j)
  | .str i, .str j => some (i == j)
  | .non, .int _ => some false | .int _, .non => some false | .non, .bl _ => some false | .bl _, .non => some false
  | .non, .str _ => some false | .str _, .non => some false | .int _, .str _ => some false | .str _, .int _ => some false
  | .bl _, .str _ => some false | .str _, .bl _ => some false
  | _, _ => none
def dEq (x y : D) : R D := match sEq x y with
  | some b => .ok (.bl b)
  | none => .bad
def dNe (x y : D) : R D := match sEq x y with
  | some b => .ok (.bl (!b))
  | none => .bad
theorem sEq_ok {K : PySem.W.Frag} {F : Hp} {x y : V} {dx dy : D} {b : Bool} (rx : Rp K F x dx) (ry : Rp K F y dy) (e : sEq dx dy = some b) : scal x y = true ∧ decide (x = y) = b := by
  cases dx <;> cases dy <;> first
    | (cases e; done)
    | (simp only [Rp] at rx ry; subst rx; subst ry; simp only [sEq, Option.some.injEq] at e; subst e; refine ⟨rfl, ?_⟩; first | rfl | exact dec_int | exact dec_bl | exact dec_str | simp)
theorem dr_eq {K : PySem.W.Frag} : DR2 K rEq dEq := fun W F0 σ ρ F H x y dx dy d Q o rx ry e q => by
  unfold dEq at e
  split at e
  · rename_i b hb
    cases e
    obtain ⟨h1, h2⟩ := sEq_ok rx ry hb
    exact ⟨h1, by rw [h2]; exact q _ F H o (Same.refl _) (rp_bl.mpr rfl)⟩
  · cases e
theorem dr_ne {K : PySem.W.Frag} : DR2 K rNe dNe := fun W F0 σ ρ F H x y dx dy d Q o rx ry e q => by
  unfold dNe at e
  split at e
  · rename_i b hb
    cases e
    obtain ⟨h1, h2⟩ := sEq_ok rx ry hb
    exact ⟨h1, by rw [h2]; exact q _ F H o (Same.refl _) (rp_bl.mpr rfl)⟩
  · cases e
/-- is None -/
def isNon : D → Bool
  | .non => true
  | _ => false
theorem isNon_ok {K : PySem.W.Frag} {F : Hp} {x : V} {d : D} (r : Rp K F x d) : decide (x = .non) = isNon d := by
  cases d with
  | tup ds => obtain ⟨a, xs, rfl, _⟩ := rp_tup.mp r; rfl
  | lst ds => obtain ⟨a, xs, rfl, _⟩ := rp_lst.mp r; rfl
  | rol ds => obtain ⟨a, xs, rfl, _⟩ := rp_rol.mp r; rfl
  | dic ks ds => obtain ⟨a, xs, rfl, _⟩ := rp_dic.mp r; rfl
  | _ => simp only [Rp] at r; subst r; first | rfl | simp [isNon]
def dIsN (x y : D) : R D := match y with
  | .non => .ok (.bl (isNon x))
  | _ => .bad
def dNotN (x y : D) : R D := match y with
  | .non => .ok (.bl (!isNon x))
  | _ => .bad
theorem dr_isN {K : PySem.W.Frag} : DR2 K (fun x y H Q => y = .non ∧ Q (.bl (decide (x = .non))) H) dIsN := fun W F0 σ ρ F H x y dx dy d Q o rx ry e q => by
  unfold dIsN at e
  split at e
  · cases e
    exact ⟨rp_non.mp ry, by rw [isNon_ok rx]; exact q _ F H o (Same.refl _) (rp_bl.mpr rfl)⟩
  · cases e
theorem dr_notN {K : PySem.W.Frag} : DR2 K (fun x y H Q => y = .non ∧ Q (.bl (!decide (x = .non))) H) dNotN := fun W F0 σ ρ F H x y dx dy d Q o rx ry e q => by
  unfold dNotN at e
  split at e
  · cases e
    exact ⟨rp_non.mp ry, by rw [isNon_ok rx]; exact q _ F H o (Same.refl _) (rp_bl.mpr rfl)⟩
  · cases e
/-! tests -/
def asB : D → R Bool
  | .bl b => .ok b
  | _ => .bad
def tst (f : En → R D) : En → R Bool := fun ρ => f ρ >>= asB
theorem dt_of {K : PySem.W.Frag} {t : TE} {f : En → R D} (h : DE K t f) : DT K (tTest t) (tst f) := fun W F0 σ ρ F H b Q o e q => by
  obtain ⟨d, e1, e2⟩ := R.of_bind e
  refine h W F0 σ ρ F H d _ o e1 fun v F' H' o' s r => ?_
  cases d <;> first | (cases e2; done) | skip
  cases e2
  exact ⟨b, rp_bl.mp r, q F' H' o' s⟩
section
variable {X : Cx} {pos : Pos} {a b c e : Expr} {rest : List Expr} {ta tb tc : TE} {fa fb fc : En → R D} {t u : TT} {f g : En → R Bool}
theorem ptd_cmp {op : CmpOp} {r : R2} {g : D → D → R D} (ho : OpR X (compareOp op) r) (hr : DR2 X.K r g) (ha : PD X a ta fa) (hb : PD X b tb fb) (hm : behindInMarks op b = false := by first | exact nomark _ | rfl | with_unfolding_all rfl) :
    PTD X (.Compare a [op] [b] pos) (tTest (tOp r ta tb)) (tst (eBin g fa fb)) := ⟨pt_cmpR ho ha.pe hb.pe hm, dt_of (de_bin hr ha.de hb.de)⟩
theorem ptd_val (h : PD X e ta fa) (he : ∀ whole, isTrue e X.env whole = (do let v ← whole; standAt e.pos; holding [v] (truthy v)) := by intro _; rfl) : PTD X e (tB ta) (tst fa) := ⟨pt_val h.pe he, dt_of h.de⟩
/-- truth of any value -/
def truD : D → R Bool
  | .non => .ok false
  | .bl b => .ok b
  | .int i => .ok (i != 0)
  | .str s => guardR (small s.length) >>= fun _ => .ok (decide (s.length ≠ 0))
  | .tup ds => .ok (!ds.isEmpty)
  | .lst ds => .ok (!ds.isEmpty)
  | .rol ds => .ok (!ds.isEmpty)
  | .dic ks _ => .ok (!ks.isEmpty)
def truL (ds : List D) : R Bool := .ok (!ds.isEmpty)
theorem empty_of {K : PySem.W.Frag} {F : Hp} {xs : List V} {ds : List D} (r : Rps K F xs ds) : (!ds.isEmpty) = !xs.isEmpty := by
  have l := r.length
  cases xs <;> cases ds <;> simp_all
theorem ptd_truth (h : PD X e ta fa) (he : ∀ whole, isTrue e X.env whole = (do let v ← whole; standAt e.pos; holding [v] (truthy v)) := by intro _; rfl) :
    PTD X e (fun σ H Q => ta σ H fun x H' => ∃ k, TruV X.K x H' k ∧ Q k H') (fun ρ => fa ρ >>= truD) := by
  refine ⟨pt_truth h.pe he, fun W F0 σ ρ F H b Q o e q => ?_⟩
  obtain ⟨d, e1, e2⟩ := R.of_bind e
  refine h.de W F0 σ ρ F H d _ o e1 fun v F' H' o' s r => ?_
  cases d with
  | non => cases e2; cases rp_non.mp r; exact ⟨false, rfl, q F' H' o' s⟩
  | bl k => cases e2; cases rp_bl.mp r; exact ⟨_, rfl, q F' H' o' s⟩
  | int k => cases e2; cases rp_int.mp r; exact ⟨_, rfl, q F' H' o' s⟩
  | str z =>
    obtain ⟨u, g, e2⟩ := R.of_bind e2
    cases e2; cases rp_str.mp r
    refine ⟨_, ⟨of_small (of_guard g), ?_⟩, q F' H' o' s⟩
    by_cases hz : z.length = 0 <;> simp [hz]
  | tup ds =>
    cases e2
    obtain ⟨a, xs, rfl, ha, r⟩ := rp_tup.mp r
    exact ⟨_, .inr (.inl ⟨xs, Same.seqT o'.sub ha, empty_of r⟩), q F' H' o' s⟩
  | lst ds =>
    cases e2
    obtain ⟨a, xs, rfl, ha, r⟩ := rp_lst.mp r
    exact ⟨_, .inl ⟨xs, SqL.of (o'.sub _ _ ha), empty_of r⟩, q F' H' o' s⟩
  | rol ds =>
    cases e2
    obtain ⟨a, xs, rfl, ha, r⟩ := rp_rol.mp r
    exact ⟨_, .inl ⟨xs, o'.sub.seq ha, empty_of r⟩, q F' H' o' s⟩
  | dic ks ds =>
    cases e2
    obtain ⟨a, xs, rfl, ha, hl, r⟩ := rp_dic.mp r
    refine ⟨_, .inr (.inr ⟨_, o'.sub _ _ ha, ?_⟩), q F' H' o' s⟩
    cases ks <;> cases xs <;> simp_all
theorem ptl_truth {f : En → R (List D)} (h : PL X e ta f) (he : ∀ whole, isTrue e X.env whole = (do let v ← whole; standAt e.pos; holding [v] (truthy v)) := by intro _; rfl) :
    PTD X e (fun σ H Q => ta σ H fun x H' => ∃ k, TruV X.K x H' k ∧ Q k H') (fun ρ => f ρ >>= truL) := by
  refine ⟨pt_truth h.pe he, fun W F0 σ ρ F H b Q o e q => ?_⟩
  obtain ⟨ds, e1, e2⟩ := R.of_bind e
  cases e2
  refine h.de W F0 σ ρ F H ds _ o e1 fun p vs F' H' o' s hp r => ?_
  exact ⟨_, .inl ⟨vs, SqL.of hp, empty_of r⟩, q F' H' o' s⟩
def bAnd (f g : En → R Bool) : En → R Bool := fun ρ => f ρ >>= fun b => if b = true then g ρ else .ok false
def bOr (f g : En → R Bool) : En → R Bool := fun ρ => f ρ >>= fun b => if b = true then .ok true else g ρ
def bNot (f : En → R Bool) : En → R Bool := fun ρ => f ρ >>= fun b => .ok (!b)
theorem PWD.pt (h : PWD X e t f) : PTD X e t f := ⟨h.pe.pt, h.de⟩
theorem pwd_and1 (ha : PTD X a t f) : PWD X (.BoolOp .And [a] pos) t f := ⟨pw_and1 ha.pe, ha.de⟩
theorem pwd_or1 (ha : PTD X a t f) : PWD X (.BoolOp .Or [a] pos) t f := ⟨pw_or1 ha.pe, ha.de⟩
theorem pwd_and (ha : PTD X a t f) (hb : PWD X (.BoolOp .And (b :: rest) pos) u g) : PWD X (.BoolOp .And (a :: b :: rest) pos) (tAnd t u) (bAnd f g) := by
  refine ⟨pw_and ha.pe hb.pe, fun W F0 σ ρ F H k Q o e q => ?_⟩
  obtain ⟨c, e1, e2⟩ := R.of_bind e
  refine ha.de W F0 σ ρ F H c _ o e1 fun F1 H1 o1 s1 => ?_
  cases c with
  | true => exact iteT (hb.de W F0 σ ρ F1 H1 k Q o1 (by simpa using e2) fun F2 H2 o2 s2 => q F2 H2 o2 (s1.trans s2))
  | false =>
    have e3 : k = false := by simpa using e2.symm
    subst e3
    exact iteF (q F1 H1 o1 s1)
theorem pwd_or (ha : PTD X a t f) (hb : PWD X (.BoolOp .Or (b :: rest) pos) u g) : PWD X (.BoolOp .Or (a :: b :: rest) pos) (tOr t u) (bOr f g) := by
  refine ⟨pw_or ha.pe hb.pe, fun W F0 σ ρ F H k Q o e q => ?_⟩
  obtain ⟨c, e1, e2⟩ := R.of_bind e
  refine ha.de W F0 σ ρ F H c _ o e1 fun F1 H1 o1 s1 => ?_
  cases c with
  | false => exact iteF (hb.de W F0 σ ρ F1 H1 k Q o1 (by simpa using e2) fun F2 H2 o2 s2 => q F2 H2 o2 (s1.trans s2))
  | true =>
    have e3 : k = true := by simpa using e2.symm
    subst e3
    exact iteT (q F1 H1 o1 s1)
theorem ptd_not (ha : PTD X a t f) : PTD X (.UnaryOp .Not a pos) (tNot t) (bNot f) := by
  refine ⟨pt_not ha.pe, fun W F0 σ ρ F H k Q o e q => ?_⟩
  obtain ⟨c, e1, e2⟩ := R.of_bind e
  cases e2
  exact ha.de W F0 σ ρ F H c _ o e1 fun F1 H1 o1 s1 => q F1 H1 o1 s1
/-- as values: all but the last are bools -/
def vAnd (f g : En → R D) : En → R D := fun ρ => f ρ >>= fun d => asB d >>= fun b => if b = true then g ρ else .ok (.bl false)
def vOr (f g : En → R D) : En → R D := fun ρ => f ρ >>= fun d => asB d >>= fun b => if b = true then .ok (.bl true) else g ρ
def vNot (f : En → R D) : En → R D := fun ρ => f ρ >>= fun d => asB d >>= fun b => .ok (.bl (!b))
theorem pd_one {op} (h : PD X a ta fa) : PD X (.BoolOp op [a] pos) ta fa := ⟨pe_one h.pe, h.de⟩
theorem asB_ok {d : D} {b : Bool} (h : asB d = .ok b) : d = .bl b := by
  cases d <;> first | (cases h; done) | skip
  cases h; rfl
theorem pd_and (ha : PD X a ta fa) (hb : PD X (.BoolOp .And (b :: rest) pos) tb fb) : PD X (.BoolOp .And (a :: b :: rest) pos) (tAndV ta tb) (vAnd fa fb) := by
  refine ⟨pe_and ha.pe hb.pe, fun W F0 σ ρ F H k Q o e q => ?_⟩
  obtain ⟨d, e1, e'⟩ := R.of_bind e
  obtain ⟨c, e2, e''⟩ := R.of_bind e'
  clear e e'
  have e := e''
  clear e''
  cases asB_ok e2
  refine ha.de W F0 σ ρ F H _ _ o e1 fun v F1 H1 o1 s1 r1 => ⟨c, rp_bl.mp r1, ?_⟩
  cases c with
  | true => exact iteT (hb.de W F0 σ ρ F1 H1 k Q o1 (by simpa using e) fun v F2 H2 o2 s2 r => q v F2 H2 o2 (s1.trans s2) r)
  | false =>
    have e3 : D.bl false = k := by simpa using e
    subst e3
    exact iteF (q _ F1 H1 o1 s1 (rp_bl.mpr rfl))
theorem pd_or (ha : PD X a ta fa) (hb : PD X (.BoolOp .Or (b :: rest) pos) tb fb) : PD X (.BoolOp .Or (a :: b :: rest) pos) (tOrV ta tb) (vOr fa fb) := by
  refine ⟨pe_or ha.pe hb.pe, fun W F0 σ ρ F H k Q o e q => ?_⟩
  obtain ⟨d, e1, e'⟩ := R.of_bind e
  obtain ⟨c, e2, e''⟩ := R.of_bind e'
  clear e e'
  have e := e''
  clear e''
  cases asB_ok e2
  refine ha.de W F0 σ ρ F H _ _ o e1 fun v F1 H1 o1 s1 r1 => ⟨c, rp_bl.mp r1, ?_⟩
  cases c with
  | false => exact iteF (hb.de W F0 σ ρ F1 H1 k Q o1 (by simpa using e) fun v F2 H2 o2 s2 r => q v F2 H2 o2 (s1.trans s2) r)
  | true =>
    have e3 : D.bl true = k := by simpa using e
    subst e3
    exact iteT (q _ F1 H1 o1 s1 (rp_bl.mpr rfl))
theorem pd_not (ha : PD X a ta fa) : PD X (.UnaryOp .Not a pos) (tNotV ta) (vNot fa) := by
  refine ⟨pe_not ha.pe, fun W F0 σ ρ F H k Q o e q => ?_⟩
  obtain ⟨d, e1, e'⟩ := R.of_bind e
  obtain ⟨c, e2, e''⟩ := R.of_bind e'
  clear e e'
  have e := e''
  clear e''
  cases asB_ok e2
  cases e
  exact ha.de W F0 σ ρ F H _ _ o e1 fun v F1 H1 o1 s1 r1 => ⟨c, rp_bl.mp r1, q _ F1 H1 o1 s1 (rp_bl.mpr rfl)⟩
def eIf (t : En → R Bool) (a b : En → R D) : En → R D := fun ρ => t ρ >>= fun c => if c = true then a ρ else b ρ
theorem pd_if (hc : PTD X c t f) (ha : PD X a ta fa) (hb : PD X b tb fb) : PD X (.IfExp c a b pos) (tIf t ta tb) (eIf f fa fb) := by
  refine ⟨pe_ifExp hc.pe ha.pe hb.pe, fun W F0 σ ρ F H k Q o e q => ?_⟩
  obtain ⟨d, e1, e⟩ := R.of_bind e
  refine hc.de W F0 σ ρ F H _ _ o e1 fun F1 H1 o1 s1 => ?_
  cases d with
  | true => exact iteT (ha.de W F0 σ ρ F1 H1 k Q o1 (by simpa using e) fun v F2 H2 o2 s2 r => q v F2 H2 o2 (s1.trans s2) r)
  | false => exact iteF (hb.de W F0 σ ρ F1 H1 k Q o1 (by simpa using e) fun v F2 H2 o2 s2 r => q v F2 H2 o2 (s1.trans s2) r)
/-- a op1 b op2 c -/
def eChain (g g' : D → D → R D) (a b c : En → R D) : En → R D := fun ρ => a ρ >>= fun x => b ρ >>= fun y => g x y >>= fun z => asB z >>= fun k => if k = true then c ρ >>= fun w => g' y w else .ok (.bl false)
theorem de_chain {K : PySem.W.Frag} {r r' : R2} {g g' : D → D → R D} (hr : DR2 K r g) (hr' : DR2 K r' g') (ha : DE K ta fa) (hb : DE K tb fb) (hc : DE K tc fc) : DE K (tChain r r' ta tb tc) (eChain g g' fa fb fc) := fun W F0 σ ρ F H d Q o e q => by
  obtain ⟨dx, e1, e⟩ := R.of_bind e
  obtain ⟨dy, e2, e⟩ := R.of_bind e
  obtain ⟨dz, e3, e'⟩ := R.of_bind e
  obtain ⟨k, e4, e''⟩ := R.of_bind e'
  clear e e'
  have e := e''
  clear e''
  cases asB_ok e4
  refine ha W F0 σ ρ F H dx _ o e1 fun x F1 H1 o1 s1 r1 => ?_
  refine hb W F0 σ ρ F1 H1 dy _ o1 e2 fun y F2 H2 o2 s2 r2 => ?_
  refine hr W F0 σ ρ F2 H2 x y dx dy _ _ o2 (r1.mono s2) r2 e3 fun v F3 H3 o3 s3 r3 => ⟨k, rp_bl.mp r3, ?_⟩
  cases k with
  | true =>
    rw [if_pos rfl] at e
    obtain ⟨dw, e5, e⟩ := R.of_bind e
    refine iteT (hc W F0 σ ρ F3 H3 dw _ o3 e5 fun w F4 H4 o4 s4 r4 => ?_)
    exact hr' W F0 σ ρ F4 H4 y w dy dw d Q o4 ((r2.mono s3).mono s4) r4 e fun v F5 H5 o5 s5 r5 => q v F5 H5 o5 ((((s1.trans s2).trans s3).trans s4).trans s5) r5
  | false =>
    have e6 : D.bl false = d := by simpa using e
    subst e6
    exact iteF (q _ F3 H3 o3 ((s1.trans s2).trans s3) (rp_bl.mpr rfl))
theorem pd_chain {op op' : CmpOp} {r r' : R2} {g g' : D → D → R D} (ho : OpR X (compareOp op) r) (hr : DR2 X.K r g) (ho' : OpR X (compareOp op') r') (hr' : DR2 X.K r' g') (ha : PD X a ta fa) (hb : PD X b tb fb) (hc : PD X c tc fc)
    (hm : lastMarks [op, op'] [b, c] = false := by with_unfolding_all rfl) : PD X (.Compare a [op, op'] [b, c] pos) (tChain r r' ta tb tc) (eChain g g' fa fb fc) := ⟨pe_chain ho ho' ha.pe hb.pe hc.pe hm, de_chain hr hr' ha.de hb.de hc.de⟩
theorem ptd_chain {op op' : CmpOp} {r r' : R2} {g g' : D → D → R D} (ho : OpR X (compareOp op) r) (hr : DR2 X.K r g) (ho' : OpR X (compareOp op') r') (hr' : DR2 X.K r' g') (ha : PD X a ta fa) (hb : PD X b tb fb) (hc : PD X c tc fc)
    (hm : lastMarks [op, op'] [b, c] = false := by with_unfolding_all rfl) : PTD X (.Compare a [op, op'] [b, c] pos) (tTest (tChain r r' ta tb tc)) (tst (eChain g g' fa fb fc)) := ⟨pt_chain ho ho' ha.pe hb.pe hc.pe hm, dt_of (de_chain hr hr' ha.de hb.de hc.de)⟩
end
/-! arguments, displays -/
def eNil : En → R (List D) := fun _ => .ok []
def eCons (a : En → R D) (r : En → R (List D)) : En → R (List D) := fun ρ => a ρ >>= fun x => r ρ >>= fun xs => .ok (x :: xs)
def eTup (f : En → R (List D)) : En → R D := fun ρ => f ρ >>= fun ds => guardR (small ds.length) >>= fun _ => .ok (.tup ds)
def eLst (f : En → R (List D)) : En → R (List D) := fun ρ => f ρ >>= fun ds => guardR (small ds.length) >>= fun _ => .ok ds
section
variable {X : Cx} {pos : Pos} {e : Expr} {es : List Expr} {te : TE} {t : TA} {fe : En → R D} {f : En → R (List D)}
theorem pad_nil : PAD X [] tNil eNil := ⟨pa_nil, fun W F0 σ ρ F H ds Q o e q => by cases e; exact q [] F H o (Same.refl _) .nil⟩
theorem pad_cons (ha : PD X e te fe) (hr : PAD X es t f) (hs : starEach (e :: es) X.env = (false, eval e X.env) :: starEach es X.env := by rfl) : PAD X (e :: es) (tCons te t) (eCons fe f) := by
  refine ⟨pa_cons ha.pe hr.pe hs, fun W F0 σ ρ F H ds Q o e q => ?_⟩
  obtain ⟨x, e1, e⟩ := R.of_bind e
  obtain ⟨xs, e2, e⟩ := R.of_bind e
  cases e
  refine ha.de W F0 σ ρ F H x _ o e1 fun v F1 H1 o1 s1 r1 => ?_
  exact hr.de W F0 σ ρ F1 H1 xs _ o1 e2 fun vs F2 H2 o2 s2 r2 => q _ F2 H2 o2 (s1.trans s2) (.cons (r1.mono s2) r2)
theorem pd_tup {x1} (h : PAD X es t f) : PD X (.Tuple es x1 pos) (tTup t) (eTup f) := by
  refine ⟨pe_tup h.pe, fun W F0 σ ρ F H d Q o e q => ?_⟩
  obtain ⟨ds, e1, e⟩ := R.of_bind e
  obtain ⟨u, e2, e⟩ := R.of_bind e
  cases e
  refine h.de W F0 σ ρ F H ds _ o e1 fun vs F1 H1 o1 s1 r1 => ⟨by rw [r1.length]; exact of_small (of_guard e2), fun p hp => ?_⟩
  have s := same_upd (u := .tup vs) (o1.free hp).1
  exact q _ _ _ (o1.push _ hp) (s1.trans s) (rp_tup.mpr ⟨p, vs, rfl, SqT.of upd_same, r1.mono s⟩)
theorem pf_lst (h : PAD X es t f) : PF X (.List es pos) (tLst t) (eLst f) := by
  refine ⟨pe_lst h.pe, fun W F0 σ ρ F H d Q o e q => ?_⟩
  obtain ⟨ds, e1, e⟩ := R.of_bind e
  obtain ⟨u, e2, e⟩ := R.of_bind e
  cases e
  refine h.de W F0 σ ρ F H _ _ o e1 fun vs F1 H1 o1 s1 r1 => ⟨by rw [r1.length]; exact of_small (of_guard e2), fun p hp => ?_⟩
  exact q p vs F1 _ (o1.pushH _ hp) s1 upd_same (o1.free hp).1 (o1.free hp).2 (o1.apart hp) r1
end
end DD

namespace DD
open PySem PySem.Spec PyProof.Rows L2

/-! ### built-in calls -/
def eCall (g : List D → R D) (f : En → R (List D)) : En → R D := fun ρ => f ρ >>= g
def DCl (K : PySem.W.Frag) (r : List V → Hp → VK → Prop) (g : List D → R D) : Prop := ∀ (W F0 : Hp) (σ : L2.St) (ρ : En) (F H : Hp) (vs : List V) (ds : List D) (d : D) (Q : VK), Ok K W F0 σ ρ F H → Rps K F vs ds → g ds = .ok d →
  (∀ v F' H', Ok K W F0 σ ρ F' H' → Same F F' → Rp K F' v d → Q v H') → r vs H Q
/-- .. of a list (perhaps owned) -/
def DCo (K : PySem.W.Frag) (r : List V → Hp → VK → Prop) (g : List D → R D) : Prop := ∀ (W F0 : Hp) (σ : L2.St) (ρ : En) (F H : Hp) (p : Addr) (vs : List V) (ds : List D) (d : D) (Q : VK), Ok K W F0 σ ρ F H → H p = some (.lst vs) → Rps K F vs ds → g ds = .ok d →
  (∀ v F' H', Ok K W F0 σ ρ F' H' → Same F F' → Rp K F' v d → Q v H') → r [.ref p] H Q
/-- .. with a new list as the answer -/
def DCf (K : PySem.W.Frag) (r : List V → Hp → VK → Prop) (g : List D → R (List D)) : Prop := ∀ (W F0 : Hp) (σ : L2.St) (ρ : En) (F H : Hp) (vs : List V) (ds es : List D) (Q : VK), Ok K W F0 σ ρ F H → Rps K F vs ds → g ds = .ok es →
  (∀ p ws F' H', Ok K W F0 σ ρ F' H' → Same F F' → H' p = some (.lst ws) → F' p = none → W p = none → Apart σ ρ p → Rps K F' ws es → Q (.ref p) H') → r vs H Q
theorem de_call {K : PySem.W.Frag} {r : List V → Hp → VK → Prop} {g : List D → R D} {t : TA} {f : En → R (List D)} (hr : DCl K r g) (h : DAs K t f) : DE K (tCB r t) (eCall g f) := fun W F0 σ ρ F H d Q o e q => by
  obtain ⟨ds, e1, e2⟩ := R.of_bind e
  exact h W F0 σ ρ F H ds _ o e1 fun vs F1 H1 o1 s1 r1 => hr W F0 σ ρ F1 H1 vs ds d Q o1 r1 e2 fun v F2 H2 o2 s2 r2 => q v F2 H2 o2 (s1.trans s2) r2
theorem de_callO {K : PySem.W.Frag} {r : List V → Hp → VK → Prop} {g : List D → R D} {t : TE} {f : En → R (List D)} (hr : DCo K r g) (h : DLs K t f) : DE K (tCB r (tCons t tNil)) (eCall g f) := fun W F0 σ ρ F H d Q o e q => by
  obtain ⟨ds, e1, e2⟩ := R.of_bind e
  exact h W F0 σ ρ F H ds _ o e1 fun p vs F1 H1 o1 s1 hp r1 => hr W F0 σ ρ F1 H1 p vs ds d Q o1 hp r1 e2 fun v F2 H2 o2 s2 r2 => q v F2 H2 o2 (s1.trans s2) r2
theorem df_call {K : PySem.W.Frag} {r : List V → Hp → VK → Prop} {g : List D → R (List D)} {t : TA} {f : En → R (List D)} (hr : DCf K r g) (h : DAs K t f) : DF K (tCB r t) (fun ρ => f ρ >>= g) := fun W F0 σ ρ F H d Q o e q => by
  obtain ⟨ds, e1, e2⟩ := R.of_bind e
  exact h W F0 σ ρ F H ds _ o e1 fun vs F1 H1 o1 s1 r1 => hr W F0 σ ρ F1 H1 vs ds d Q o1 r1 e2 fun p vs F2 H2 o2 s2 a b c d r2 => q p vs F2 H2 o2 (s1.trans s2) a b c d r2
section
variable {X : Cx} {x : Str} {p pos : Pos} {e : Expr} {es : List Expr} {t : TA} {te : TE} {f : En → R (List D)} {id T : String} {r : List V → Hp → VK → Prop} {g : List D → R D} {gl : List D → R (List D)}
theorem pd_callB (hc : CallR X (.builtin id) r) (hr : DCl X.K r g) (hm : X.mg x = none) (hv : bootBuiltins x = some (.builtin id)) (ha : PAD X (e :: es) t f) (hg : Gl X x := by rfl) (hn : x ≠ "__name__" := by decide) (hdb : (x == ("__debug__" : Str)) = false := by decide)
    (he : starEach (e :: es) X.env = (false, eval e X.env) :: starEach es X.env := by rfl) (hpl : (backTo pos (starEach es X.env)).any (·.1) = false := by rfl) : PD X (.Call (.Name x p) (e :: es) [] pos) (tCB r t) (eCall g f) :=
  ⟨pe_callB hc hg hm hv ha.pe hn hdb he hpl, de_call hr ha.de⟩
theorem pd_callT (hc : CallR X (.type T) r) (hr : DCl X.K r g) (hm : X.mg x = none) (hv : bootBuiltins x = some (.type T)) (ha : PAD X (e :: es) t f) (hg : Gl X x := by rfl) (hn : x ≠ "__name__" := by decide) (hdb : (x == ("__debug__" : Str)) = false := by decide)
    (he : starEach (e :: es) X.env = (false, eval e X.env) :: starEach es X.env := by rfl) (hpl : (backTo pos (starEach es X.env)).any (·.1) = false := by rfl) : PD X (.Call (.Name x p) (e :: es) [] pos) (tCB r t) (eCall g f) :=
  ⟨pe_callTy hc hg hm hv ha.pe hn hdb he hpl, de_call hr ha.de⟩
theorem pd_callBO (hc : CallR X (.builtin id) r) (hr : DCo X.K r g) (hm : X.mg x = none) (hv : bootBuiltins x = some (.builtin id)) (ha : PL X e te f) (hg : Gl X x := by rfl) (hn : x ≠ "__name__" := by decide) (hdb : (x == ("__debug__" : Str)) = false := by decide)
    (he : starEach [e] X.env = (false, eval e X.env) :: starEach [] X.env := by rfl) (hpl : (backTo pos (starEach [] X.env)).any (·.1) = false := by rfl) : PD X (.Call (.Name x p) [e] [] pos) (tCB r (tCons te tNil)) (eCall g f) :=
  ⟨pe_callB hc hg hm hv (pa_cons ha.pe pa_nil he) hn hdb he hpl, de_callO hr ha.de⟩
theorem pd_callTO (hc : CallR X (.type T) r) (hr : DCo X.K r g) (hm : X.mg x = none) (hv : bootBuiltins x = some (.type T)) (ha : PL X e te f) (hg : Gl X x := by rfl) (hn : x ≠ "__name__" := by decide) (hdb : (x == ("__debug__" : Str)) = false := by decide)
    (he : starEach [e] X.env = (false, eval e X.env) :: starEach [] X.env := by rfl) (hpl : (backTo pos (starEach [] X.env)).any (·.1) = false := by rfl) : PD X (.Call (.Name x p) [e] [] pos) (tCB r (tCons te tNil)) (eCall g f) :=
  ⟨pe_callTy hc hg hm hv (pa_cons ha.pe pa_nil he) hn hdb he hpl, de_callO hr ha.de⟩
theorem pf_callT (hc : CallR X (.type T) r) (hr : DCf X.K r gl) (hm : X.mg x = none) (hv : bootBuiltins x = some (.type T)) (ha : PAD X (e :: es) t f) (hg : Gl X x := by rfl) (hn : x ≠ "__name__" := by decide) (hdb : (x == ("__debug__" : Str)) = false := by decide)
    (he : starEach (e :: es) X.env = (false, eval e X.env) :: starEach es X.env := by rfl) (hpl : (backTo pos (starEach es X.env)).any (·.1) = false := by rfl) : PF X (.Call (.Name x p) (e :: es) [] pos) (tCB r t) (fun ρ => f ρ >>= gl) :=
  ⟨pe_callTy hc hg hm hv ha.pe hn hdb he hpl, df_call hr ha.de⟩
end
/-! one argument -/
def d1 (g : D → R D) : List D → R D
  | [d] => g d
  | _ => .bad
theorem dc1 {K : PySem.W.Frag} {r : List V → Hp → VK → Prop} {g : D → R D} (h : ∀ (W F0 : Hp) (σ : L2.St) (ρ : En) (F H : Hp) (v : V) (d e : D) (Q : VK), Ok K W F0 σ ρ F H → Rp K F v d → g d = .ok e →
    (∀ v F' H', Ok K W F0 σ ρ F' H' → Same F F' → Rp K F' v e → Q v H') → r [v] H Q) : DCl K r (d1 g) := fun W F0 σ ρ F H vs ds d Q o rv e q => by
  unfold d1 at e
  split at e
  · obtain ⟨y, ys, rfl, r1, r2⟩ := rv.of_cons
    cases r2.of_nil
    exact h W F0 σ ρ F H y _ d Q o r1 e q
  · cases e
def d2 (g : D → D → R D) : List D → R D
  | [d, e] => g d e
  | _ => .bad
theorem dc2 {K : PySem.W.Frag} {r : List V → Hp → VK → Prop} {g : D → D → R D} (h : ∀ (W F0 : Hp) (σ : L2.St) (ρ : En) (F H : Hp) (v w : V) (d d' e : D) (Q : VK), Ok K W F0 σ ρ F H → Rp K F v d → Rp K F w d' → g d d' = .ok e →
    (∀ v F' H', Ok K W F0 σ ρ F' H' → Same F F' → Rp K F' v e → Q v H') → r [v, w] H Q) : DCl K r (d2 g) := fun W F0 σ ρ F H vs ds d Q o rv e q => by
  unfold d2 at e
  split at e
  · obtain ⟨y, ys, rfl, r1, r2⟩ := rv.of_cons
    obtain ⟨z, zs, rfl, r3, r4⟩ := r2.of_cons
    cases r4.of_nil
    exact h W F0 σ ρ F H y z _ _ d Q o r1 r3 e q
  · cases e
/-! len -/
def dLen1 : D → R D
  | .str z => guardR (small z.length) >>= fun _ => .ok (.int z.length)
  | .tup ds => .ok (.int ds.length)
  | .lst ds => .ok (.int ds.length)
  | .rol ds => .ok (.int ds.length)
  | _ => .bad
def dLen := d1 dLen1
def dLenL (ds : List D) : R D := .ok (.int ds.length)
def rLen (K : PySem.W.Frag) : List V → Hp → VK → Prop := fun xs H Q => ∃ x n, xs = [x] ∧ LenV K x H n ∧ Q (.int n) H
theorem cr_len {X : Cx} : CallR X (.builtin "len") (rLen X.K) := call_len
theorem dc_len {K : PySem.W.Frag} : DCl K (rLen K) dLen := dc1 fun W F0 σ ρ F H v d e Q o r h q => by
  unfold dLen1 at h
  split at h
  · obtain ⟨u, g, h⟩ := R.of_bind h
    cases h; cases rp_str.mp r
    exact ⟨_, _, rfl, ⟨of_small (of_guard g), rfl⟩, q _ F H o (Same.refl _) (rp_int.mpr rfl)⟩
  · cases h
    obtain ⟨a, xs, rfl, ha, r⟩ := rp_tup.mp r
    exact ⟨_, xs.length, rfl, .inr ⟨xs, Same.seqT o.sub ha, rfl⟩, q _ F H o (Same.refl _) (rp_int.mpr (by rw [r.length]))⟩
  · cases h
    obtain ⟨a, xs, rfl, ha, r⟩ := rp_lst.mp r
    exact ⟨_, xs.length, rfl, .inl ⟨xs, SqL.of (o.sub _ _ ha), rfl⟩, q _ F H o (Same.refl _) (rp_int.mpr (by rw [r.length]))⟩
  · cases h
    obtain ⟨a, xs, rfl, ha, r⟩ := rp_rol.mp r
    exact ⟨_, xs.length, rfl, .inl ⟨xs, o.sub.seq ha, rfl⟩, q _ F H o (Same.refl _) (rp_int.mpr (by rw [r.length]))⟩
  · cases h
theorem dco_len {K : PySem.W.Frag} : DCo K (rLen K) dLenL := fun W F0 σ ρ F H p vs ds d Q o hp r h q => by
  cases h
  exact ⟨_, vs.length, rfl, .inl ⟨vs, SqL.of hp, rfl⟩, q _ F H o (Same.refl _) (rp_int.mpr (by rw [r.length]))⟩
/-! abs, int, str -/
def dAbs := d1 fun | .int i => .ok (.int (if i < 0 then -i else i)) | _ => .bad
def rAbs : List V → Hp → VK → Prop := fun xs H Q => ∃ i, xs = [.int i] ∧ Q (.int (if i < 0 then -i else i)) H
theorem cr_abs {X : Cx} : CallR X (.builtin "abs") rAbs := call_abs
theorem dc_abs {K : PySem.W.Frag} : DCl K rAbs dAbs := dc1 fun W F0 σ ρ F H v d e Q o r h q => by
  split at h
  · cases h; cases rp_int.mp r
    exact ⟨_, rfl, q _ F H o (Same.refl _) (rp_int.mpr rfl)⟩
  · cases h
def dInt := d1 fun
  | .int i => .ok (.int i)
  | .bl b => .ok (.int (if b then 1 else 0))
  | .str s => match PySem.intText? s with
    | some n => guardR (decide (s.length ≤ 640)) >>= fun _ => .ok (.int n)
    | none => .bad
  | _ => .bad
def rInt : List V → Hp → VK → Prop := fun xs H Q => ((∃ i, xs = [.int i] ∧ Q (.int i) H) ∨ ∃ k, xs = [.bl k] ∧ Q (.int (if k then 1 else 0)) H) ∨ (∃ a n, xs = [.str a] ∧ PySem.intText? a = some n ∧ a.length ≤ 640 ∧ Q (.int n) H)
theorem cr_int {X : Cx} : CallR X (.type "int") rInt := call_int1.or call_int_str
theorem dc_int {K : PySem.W.Frag} : DCl K rInt dInt := dc1 fun W F0 σ ρ F H v d e Q o r h q => by
  split at h
  · cases h; cases rp_int.mp r
    exact .inl (.inl ⟨_, rfl, q _ F H o (Same.refl _) (rp_int.mpr rfl)⟩)
  · cases h; cases rp_bl.mp r
    exact .inl (.inr ⟨_, rfl, q _ F H o (Same.refl _) (rp_int.mpr rfl)⟩)
  · split at h
    · rename_i n hn
      obtain ⟨u, g, h⟩ := R.of_bind h
      cases h; cases rp_str.mp r
      exact .inr ⟨_, _, rfl, hn, of_decide_eq_true (of_guard g), q _ F H o (Same.refl _) (rp_int.mpr rfl)⟩
    · cases h
  · cases h
def bits (i : Int) : Bool := decide (i.natAbs.log2 < 1920)
def dStr := d1 fun
  | .int i => guardR (bits i) >>= fun _ => .ok (.str (toString i))
  | .str s => .ok (.str s)
  | _ => .bad
def rStr : List V → Hp → VK → Prop := fun xs H Q => (∃ i : Int, xs = [.int i] ∧ i.natAbs.log2 < 1920 ∧ Q (.str (toString i)) H) ∨ ∃ a, xs = [.str a] ∧ Q (.str a) H
theorem cr_str {X : Cx} : CallR X (.type "str") rStr := CallR.or (r := fun xs H Q => ∃ i : Int, xs = [.int i] ∧ i.natAbs.log2 < 1920 ∧ Q (.str (toString i)) H) call_str_int SkE.call_str_str
theorem dc_str {K : PySem.W.Frag} : DCl K rStr dStr := dc1 fun W F0 σ ρ F H v d e Q o r h q => by
  split at h
  · obtain ⟨u, g, h⟩ := R.of_bind h
    cases h; cases rp_int.mp r
    exact .inl ⟨_, rfl, of_decide_eq_true (of_guard g), q _ F H o (Same.refl _) (rp_str.mpr rfl)⟩
  · cases h; cases rp_str.mp r
    exact .inr ⟨_, rfl, q _ F H o (Same.refl _) (rp_str.mpr rfl)⟩
  · cases h
/-! min of a list, min and max of two -/
def asInts : List D → R (List Int)
  | [] => .ok []
  | .int i :: r => asInts r >>= fun is => .ok (i :: is)
  | _ :: _ => .bad
theorem asInts_ok : ∀ {ds : List D} {is : List Int}, asInts ds = .ok is → ds = is.map D.int
  | [], is, h => by cases h; rfl
  | d :: r, is, h => by
    cases d <;> first | (cases h; done) | skip
    obtain ⟨js, h1, h2⟩ := R.of_bind h
    cases h2
    rw [asInts_ok h1]
    rfl
theorem rps_ints {K : PySem.W.Frag} {F : Hp} : ∀ {vs : List V} {is : List Int}, Rps K F vs (is.map D.int) → vs = is.map V.int
  | vs, [], h => h.of_nil
  | vs, i :: is, h => by
    obtain ⟨y, ys, rfl, r1, r2⟩ := h.of_cons
    cases rp_int.mp r1
    rw [rps_ints r2]
    rfl
def lmin : List Int → Int
  | [] => 0
  | [a] => a
  | a :: b :: r => min a (lmin (b :: r))
theorem lmin_spec : ∀ {l : List Int}, l ≠ [] → lmin l ∈ l ∧ ∀ y ∈ l, lmin l ≤ y
  | [], h => absurd rfl h
  | [a], _ => ⟨by simp [lmin], fun y hy => by simp at hy; subst hy; simp [lmin]⟩
  | a :: b :: r, _ => by
    obtain ⟨h1, h2⟩ := lmin_spec (l := b :: r) (by simp)
    show min a (lmin (b :: r)) ∈ _ ∧ ∀ y ∈ _, min a (lmin (b :: r)) ≤ y
    refine ⟨?_, fun y hy => ?_⟩
    · by_cases c : a ≤ lmin (b :: r)
      · rw [Int.min_eq_left c]; exact List.mem_cons_self
      · rw [Int.min_eq_right (by omega)]; exact List.mem_cons_of_mem _ h1
    · rcases List.mem_cons.mp hy with rfl | hy
      · exact Int.min_le_left _ _
      · exact Int.le_trans (Int.min_le_right _ _) (h2 y hy)
def dMinL (ds : List D) : R D := asInts ds >>= fun is => match is with
  | [] => .bad
  | a :: r => .ok (.int (lmin (a :: r)))
theorem dco_min {K : PySem.W.Frag} : DCo K (rMin K) dMinL := fun W F0 σ ρ F H p vs ds d Q o hp r h q => by
  obtain ⟨is, h1, h2⟩ := R.of_bind h
  cases is with
  | nil => cases h2
  | cons a l =>
    cases h2
    cases asInts_ok h1
    have e := rps_ints (is := a :: l) r
    subst e
    refine ⟨p, a :: l, rfl, SqL.of hp, by simp, fun m hm hle => ?_⟩
    obtain ⟨g1, g2⟩ := lmin_spec (l := a :: l) (by simp)
    have e : m = lmin (a :: l) := Int.le_antisymm (hle _ g1) (g2 m hm)
    subst e
    exact q _ F H o (Same.refl _) (rp_int.mpr rfl)
/-! all, any -/
def asBls : List D → R (List Bool)
  | [] => .ok []
  | .bl i :: r => asBls r >>= fun is => .ok (i :: is)
  | _ :: _ => .bad
theorem asBls_ok : ∀ {ds : List D} {is : List Bool}, asBls ds = .ok is → ds = is.map D.bl
  | [], is, h => by cases h; rfl
  | d :: r, is, h => by
    cases d <;> first | (cases h; done) | skip
    obtain ⟨js, h1, h2⟩ := R.of_bind h
    cases h2
    rw [asBls_ok h1]
    rfl
theorem rps_bls {K : PySem.W.Frag} {F : Hp} : ∀ {vs : List V} {is : List Bool}, Rps K F vs (is.map D.bl) → vs = is.map V.bl
  | vs, [], h => h.of_nil
  | vs, i :: is, h => by
    obtain ⟨y, ys, rfl, r1, r2⟩ := h.of_cons
    cases rp_bl.mp r1
    rw [rps_bls r2]
    rfl
def dAll (ds : List D) : R D := asBls ds >>= fun bs => .ok (.bl (bs.all id))
def dAny (ds : List D) : R D := asBls ds >>= fun bs => .ok (.bl (bs.any id))
theorem dco_all {K : PySem.W.Frag} : DCo K (rAll K) dAll := fun W F0 σ ρ F H p vs ds d Q o hp r h q => by
  obtain ⟨bs, h1, h2⟩ := R.of_bind h
  cases h2
  cases asBls_ok h1
  have e := rps_bls r
  subst e
  exact ⟨p, bs, rfl, SqL.of hp, q _ F H o (Same.refl _) (rp_bl.mpr rfl)⟩
theorem dco_any {K : PySem.W.Frag} : DCo K (rAny K) dAny := fun W F0 σ ρ F H p vs ds d Q o hp r h q => by
  obtain ⟨bs, h1, h2⟩ := R.of_bind h
  cases h2
  cases asBls_ok h1
  have e := rps_bls r
  subst e
  exact ⟨p, bs, rfl, SqL.of hp, q _ F H o (Same.refl _) (rp_bl.mpr rfl)⟩
/-! tuple(list), list(..) -/
def rTupO (K : PySem.W.Frag) : List V → Hp → VK → Prop := fun xs H Q => ∃ p ys, xs = [.ref p] ∧ ((SqL K H p ys ∧ ∀ l, H l = none → Q (.ref l) (upd H l (.tup ys))) ∨ (SqT K H p ys ∧ Q (.ref p) H))
theorem cr_tuple {X : Cx} : CallR X (.type "tuple") (rTupO X.K) := call_tuple_of
def dTupL (ds : List D) : R D := .ok (.tup ds)
theorem dco_tuple {K : PySem.W.Frag} : DCo K (rTupO K) dTupL := fun W F0 σ ρ F H p vs ds d Q o hp r h q => by
  cases h
  refine ⟨p, vs, rfl, .inl ⟨SqL.of hp, fun l hl => ?_⟩⟩
  have s := same_upd (u := .tup vs) (o.free hl).1
  exact q _ _ _ (o.push _ hl) s (rp_tup.mpr ⟨l, vs, rfl, SqT.of upd_same, r.mono s⟩)
def rLstO (K : PySem.W.Frag) : List V → Hp → VK → Prop := fun xs H Q => ∃ p ys, xs = [.ref p] ∧ (SqL K H p ys ∨ SqT K H p ys) ∧ ∀ l, H l = none → Q (.ref l) (upd H l (.lst ys))
theorem cr_list {X : Cx} : CallR X (.type "list") (rLstO X.K) := call_list_of
def dList : List D → R (List D)
  | [.tup ds] => .ok ds
  | [.lst ds] => .ok ds
  | _ => .bad
theorem dcf_list {K : PySem.W.Frag} : DCf K (rLstO K) dList := fun W F0 σ ρ F H vs ds es Q o r h q => by
  unfold dList at h
  split at h
  · cases h
    obtain ⟨y, ys, rfl, r1, r2⟩ := r.of_cons
    cases r2.of_nil
    obtain ⟨a, xs, rfl, ha, r⟩ := rp_tup.mp r1
    exact ⟨a, xs, rfl, .inr (Same.seqT o.sub ha), fun l hl => q l xs F _ (o.pushH _ hl) (Same.refl _) upd_same (o.free hl).1 (o.free hl).2 (o.apart hl) r⟩
  · cases h
    obtain ⟨y, ys, rfl, r1, r2⟩ := r.of_cons
    cases r2.of_nil
    obtain ⟨a, xs, rfl, ha, r⟩ := rp_lst.mp r1
    exact ⟨a, xs, rfl, .inl (SqL.of (o.sub _ _ ha)), fun l hl => q l xs F _ (o.pushH _ hl) (Same.refl _) upd_same (o.free hl).1 (o.free hl).2 (o.apart hl) r⟩
  · cases h
/-! isinstance(x, T), T a built-in type -/
def tyName : D → String
  | .non => "NoneType" | .bl _ => "bool" | .int _ => "int" | .str _ => "str" | .tup _ => "tuple" | .lst _ => "list" | .rol _ => "list" | .dic _ _ => "dict"
theorem tyx_of {K : PySem.W.Frag} {F : Hp} {v : V} {d : D} (r : Rp K F v d) : TyX K F v (.type (tyName d)) := by
  cases d with
  | non => cases rp_non.mp r; exact .base .non
  | bl b => cases rp_bl.mp r; exact .base (.bl _)
  | int b => cases rp_int.mp r; exact .base (.int _)
  | str b => cases rp_str.mp r; exact .base (.str _)
  | tup ds =>
    obtain ⟨a, xs, rfl, ha, r⟩ := rp_tup.mp r
    rcases ha with (h | ⟨o, h⟩) | ⟨o, its, n, hk, hc, _⟩
    · exact .base (.tup h)
    · exact .fTuple h
    · exact .kTuple hk hc
  | lst ds =>
    obtain ⟨a, xs, rfl, ha, r⟩ := rp_lst.mp r
    exact .base (.lst ha)
  | rol ds =>
    obtain ⟨a, xs, rfl, ha, r⟩ := rp_rol.mp r
    rcases ha with (h | ⟨o, h⟩) | ⟨o, its, n, hk, hc, _⟩
    · exact .base (.lst h)
    · exact .base (.frz h)
    · exact .kList hk hc
  | dic ks ds =>
    obtain ⟨a, xs, rfl, ha, _, r⟩ := rp_dic.mp r
    exact .base (.dK ha)
theorem TyX.mono {K : PySem.W.Frag} {H H' : Hp} {v : V} {n : String} (s : Same H H') (h : TyX K H v (.type n)) : TyX K H' v (.type n) := by
  cases h with
  | base h =>
    cases h with
    | non => exact .base .non
    | bl b => exact .base (.bl b)
    | int b => exact .base (.int b)
    | str b => exact .base (.str b)
    | flt b => exact .base (.flt b)
    | lst e => exact .base (.lst (s _ _ e))
    | frz e => exact .base (.frz (s _ _ e))
    | tup e => exact .base (.tup (s _ _ e))
    | dK e => exact .base (.dK (s _ _ e))
    | dT e => exact .base (.dT (s _ _ e))
  | byt b => exact .byt b
  | set e => exact .set (s _ _ e)
  | kList e c => exact .kList e c
  | kTuple e c => exact .kTuple e c
  | kDict e c => exact .kDict e c
  | fTuple e => exact .fTuple (s _ _ e)
  | fDict e => exact .fDict (s _ _ e)
def dIsi (T : String) (d : D) : R D := match kitB (tyName d) T with
  | some b => .ok (.bl b)
  | none => .bad
theorem pd_isi {X : Cx} {a : Expr} {T : String} {Tx : Str} {ta : TE} {fa : En → R D} {p p2 pos : Pos} (hm : X.mg "isinstance" = none) (hmT : X.mg Tx = none) (hv : bootBuiltins Tx = some (.type T)) (ha : PD X a ta fa) (hg : Gl X "isinstance" := by rfl) (hgT : Gl X Tx := by rfl)
    (hn : Tx ≠ "__name__" := by decide) (hdb : (Tx == ("__debug__" : Str)) = false := by decide)
    (he : starEach [a, .Name Tx p2] X.env = (false, eval a X.env) :: starEach [.Name Tx p2] X.env := by rfl) (he2 : starEach [.Name Tx p2] X.env = (false, eval (.Name Tx p2) X.env) :: starEach [] X.env := by rfl) (hpl : (backTo pos (starEach [.Name Tx p2] X.env)).any (·.1) = false := by rfl) :
    PD X (.Call (.Name "isinstance" p) [a, .Name Tx p2] [] pos) (tCB (rIsi X.K) (tCons ta (tCons (tC (.ty T)) tNil))) (fun ρ => fa ρ >>= dIsi T) := by
  refine ⟨pe_callB call_isi hg hm PyProof.Rows.boot_isinstance (pa_cons ha.pe (pa_cons (pe_bltn (v := .ty T) hgT hmT hv rfl hn hdb) pa_nil he2) he) (by decide) (by decide) he hpl, fun W F0 σ ρ F H d Q o e q => ?_⟩
  obtain ⟨x, e1, e2⟩ := R.of_bind e
  refine ha.de W F0 σ ρ F H x _ o e1 fun v F1 H1 o1 s1 r1 => ?_
  unfold dIsi at e2
  split at e2
  · rename_i b hb
    cases e2
    exact ⟨v, .ty T, _, _, b, rfl, .ty T, TyX.mono o1.sub (tyx_of r1), kit_ty hb, q _ F1 H1 o1 s1 (rp_bl.mpr rfl)⟩
  · cases e2
/-! ### subscripts -/
def atR {α : Type} (xs : List α) (i : Int) : R α := match atI xs i with
  | some x => .ok x
  | none => .bad
def dIx : D → D → R D
  | .tup ds, .int i => atR ds i
  | .lst ds, .int i => atR ds i
  | .rol ds, .int i => atR ds i
  | .str z, .int i => guardR (small z.length) >>= fun _ => atR z.cps.toList i >>= fun c => .ok (.str ⟨#[c]⟩)
  | _, _ => .bad
theorem atR_ok {α : Type} {xs : List α} {i : Int} {x : α} (h : atR xs i = .ok x) : atI xs i = some x := by
  unfold atR at h
  split at h
  · cases h; assumption
  · cases h
theorem rps_at {K : PySem.W.Frag} {F : Hp} {vs : List V} {ds : List D} {i : Int} {d : D} (r : Rps K F vs ds) (h : atI ds i = some d) : ∃ v, atI vs i = some v ∧ Rp K F v d := by
  unfold atI at h ⊢
  rw [r.length]
  obtain ⟨j, h1, h2⟩ := Option.bind_eq_some_iff.mp h
  obtain ⟨v, h3, h4⟩ := r.get h2
  exact ⟨v, by rw [h1]; exact h3, h4⟩
theorem dr_ix {K : PySem.W.Frag} : DR2 K (rIx K) dIx := fun W F0 σ ρ F H x y dx dy d Q o rx ry e q => by
  unfold dIx at e
  split at e
  · obtain ⟨a, xs, rfl, ha, r⟩ := rp_tup.mp rx
    cases rp_int.mp ry
    obtain ⟨v, hv, rv⟩ := rps_at r (atR_ok e)
    exact .inr (.inl ⟨a, xs, _, v, rfl, rfl, Same.seqT o.sub ha, hv, q _ F H o (Same.refl _) rv⟩)
  · obtain ⟨a, xs, rfl, ha, r⟩ := rp_lst.mp rx
    cases rp_int.mp ry
    obtain ⟨v, hv, rv⟩ := rps_at r (atR_ok e)
    exact .inl ⟨a, xs, _, v, rfl, rfl, SqL.of (o.sub _ _ ha), hv, q _ F H o (Same.refl _) rv⟩
  · obtain ⟨a, xs, rfl, ha, r⟩ := rp_rol.mp rx
    cases rp_int.mp ry
    obtain ⟨v, hv, rv⟩ := rps_at r (atR_ok e)
    exact .inl ⟨a, xs, _, v, rfl, rfl, o.sub.seq ha, hv, q _ F H o (Same.refl _) rv⟩
  · obtain ⟨u, g, e⟩ := R.of_bind e
    obtain ⟨c, e1, e2⟩ := R.of_bind e
    cases e2
    cases rp_str.mp rx
    cases rp_int.mp ry
    exact .inr (.inr ⟨_, _, c, rfl, rfl, of_small (of_guard g), atR_ok e1, q _ F H o (Same.refl _) (rp_str.mpr rfl)⟩)
  · cases e
section
variable {X : Cx} {pos : Pos} {a b : Expr} {ta tb : TE} {fa fb : En → R D} {fl : En → R (List D)}
theorem pd_ix (ha : PD X a ta fa) (hb : PD X b tb fb) (hs : PlainIx b := by exact fun _ _ => rfl) : PD X (.Subscript a b pos) (tOp (rIx X.K) ta tb) (eBin dIx fa fb) := ⟨pe_ix ix_seq ha.pe hb.pe hs, de_bin dr_ix ha.de hb.de⟩
def eIxO (fl : En → R (List D)) (fb : En → R D) : En → R D := fun ρ => fl ρ >>= fun ds => fb ρ >>= fun d => dIx (.lst ds) d
/-- an owned list's item; the index has no effect on what is owned -/
theorem pd_ixO {i : Nat} {x : Str} {p : Pos} (hN : X.N[i]? = some x := by rfl) (hv : Vis X.env.scope x := by first | exact Or.inl rfl | exact Or.inr (Or.inl rfl) | exact Or.inr (Or.inr rfl)) (hb : PD X b tb fb)
    (hd : (x == ("__debug__" : Str)) = false := by decide) (hcd : (x == ("__classdict__" : Str)) = false := by decide) (hs : PlainIx b := by exact fun _ _ => rfl) : PD X (.Subscript (.Name x p) b pos) (tOp (rIx X.K) (tVar i) tb) (eIxO (eOwn i) fb) := by
  refine ⟨pe_ix ix_seq (pe_var hN hv hd hcd) hb.pe hs, fun W F0 σ ρ F H d Q o e q => ?_⟩
  obtain ⟨ds, e1, e⟩ := R.of_bind e
  obtain ⟨k, e2, e3⟩ := R.of_bind e
  unfold eOwn at e1
  split at e1
  · rename_i ds' hd'
    cases e1
    obtain ⟨y, h1, p', vs, ey, hp, hf, hw, r⟩ := slot_at o hd'
    refine ⟨.ref p', by rw [h1, ey], ?_⟩
    refine hb.de W F0 σ ρ F H k _ o e2 fun w F1 H1 o1 s1 r1 => ?_
    obtain ⟨y2, h2, p2, vs2, ey2, hp2, hf2, hw2, r2⟩ := slot_at o1 hd'
    rw [h1] at h2
    cases h2
    rw [ey] at ey2
    cases ey2
    unfold dIx at e3
    split at e3
    · rename_i z; cases z
    · rename_i z; cases z
      cases rp_int.mp r1
      obtain ⟨v, hv', rv⟩ := rps_at r2 (atR_ok e3)
      exact .inl ⟨_, _, _, v, rfl, rfl, SqL.of hp2, hv', q _ F1 H1 o1 s1 rv⟩
    · rename_i z; cases z
    · rename_i z; cases z
    · cases e3
  · cases e1
end
/-! slices -/
def cutD (xs : List D) (lo hi : Option Int) : List D := (xs.drop (HT.sIx xs.length 0 lo)).take (HT.sIx xs.length xs.length hi - HT.sIx xs.length 0 lo)
theorem rps_cut {K : PySem.W.Frag} {F : Hp} {vs : List V} {ds : List D} (r : Rps K F vs ds) (lo hi : Option Int) : Rps K F (cutV vs lo hi) (cutD ds lo hi) := by
  unfold cutV cutD
  rw [r.length]
  exact (r.drop _).take _
def DO (K : PySem.W.Frag) (t : TO) (f : En → R (Option Int)) : Prop := ∀ (W F0 : Hp) (σ : L2.St) (ρ : En) (F H : Hp) (b : Option Int) (Q : Option Int → Hp → Prop), Ok K W F0 σ ρ F H → f ρ = .ok b →
  (∀ F' H', Ok K W F0 σ ρ F' H' → Same F F' → Q b H') → t σ H Q
structure POD (X : Cx) (e : Option Expr) (t : TO) (f : En → R (Option Int)) : Prop where
  pe : PO X e t
  de : DO X.K t f
def oNone : En → R (Option Int) := fun _ => .ok none
def asI : D → R (Option Int)
  | .int i => .ok (some i)
  | _ => .bad
def oSome (f : En → R D) : En → R (Option Int) := fun ρ => f ρ >>= asI
def dSl : D → Option Int → Option Int → R D
  | .str z, lo, hi => guardR (small z.length) >>= fun _ => .ok (.str (cutS z lo hi))
  | .tup ds, lo, hi => .ok (.tup (cutD ds lo hi))
  | .lst ds, lo, hi => .ok (.lst (cutD ds lo hi))
  | .rol ds, lo, hi => .ok (.lst (cutD ds lo hi))
  | _, _, _ => .bad
def eSl (f : En → R D) (l h : En → R (Option Int)) : En → R D := fun ρ => f ρ >>= fun x => l ρ >>= fun lo => h ρ >>= fun hi => dSl x lo hi
def eSlL (f : En → R (List D)) (l h : En → R (Option Int)) : En → R (List D) := fun ρ => f ρ >>= fun x => l ρ >>= fun lo => h ρ >>= fun hi => .ok (cutD x lo hi)
def rSlAll (K : PySem.W.Frag) : V → Option Int → Option Int → Hp → VK → Prop := fun x lo hi H Q => rSlS x lo hi H Q ∨ (rSlA K x lo hi H Q ∨ rSlL K x lo hi H Q)
section
variable {X : Cx} {pos p2 : Pos} {e : Expr} {lo hi : Option Expr} {te : TE} {tl th : TO} {f : En → R D} {fL : En → R (List D)} {l h : En → R (Option Int)}
theorem sl_all : SlR X (rSlAll X.K) := sl_str.or (sl_tupA.or sl_list)
theorem pod_none : POD X none tNoPart oNone := ⟨po_none, fun W F0 σ ρ F H b Q o e q => by cases e; exact q F H o (Same.refl _)⟩
theorem pod_some {e : Expr} (he : PD X e te f) : POD X (some e) (tPart te) (oSome f) := ⟨po_some he.pe, fun W F0 σ ρ F H b Q o e q => by
  obtain ⟨d, e1, e2⟩ := R.of_bind e
  refine he.de W F0 σ ρ F H d _ o e1 fun v F1 H1 o1 s1 r1 => ?_
  cases d <;> first | (cases e2; done) | skip
  cases e2
  exact ⟨_, rp_int.mp r1, q F1 H1 o1 s1⟩⟩
theorem cutV_whole {xs : List V} {lo hi : Option Int} (h : HT.sIx xs.length 0 lo = 0 ∧ HT.sIx xs.length xs.length hi = xs.length) : cutV xs lo hi = xs := by
  unfold cutV
  rw [h.1, h.2, List.drop_zero, Nat.sub_zero, List.take_length]
theorem pd_slice (he : PD X e te f) (hl : POD X lo tl l) (hh : POD X hi th h) : PD X (.Subscript e (.Slice lo hi none p2) pos) (tSl (rSlAll X.K) te tl th) (eSl f l h) := by
  refine ⟨pe_slice sl_all he.pe hl.pe hh.pe, fun W F0 σ ρ F H d Q o e q => ?_⟩
  obtain ⟨x, e1, e'⟩ := R.of_bind e
  obtain ⟨lo', e2, e''⟩ := R.of_bind e'
  obtain ⟨hi', e3, e4⟩ := R.of_bind e''
  refine he.de W F0 σ ρ F H x _ o e1 fun v F1 H1 o1 s1 r1 => ?_
  refine hl.de W F0 σ ρ F1 H1 lo' _ o1 e2 fun F2 H2 o2 s2 => ?_
  refine hh.de W F0 σ ρ F2 H2 hi' _ o2 e3 fun F3 H3 o3 s3 => ?_
  have r3 := (r1.mono s2).mono s3
  have ss := (s1.trans s2).trans s3
  unfold dSl at e4
  split at e4
  · obtain ⟨u, g, e4⟩ := R.of_bind e4
    cases e4
    cases rp_str.mp r3
    exact .inl ⟨_, rfl, of_small (of_guard g), q _ F3 H3 o3 ss (rp_str.mpr rfl)⟩
  · cases e4
    obtain ⟨a, xs, rfl, ha, r⟩ := rp_tup.mp r3
    refine .inr (.inl ⟨a, xs, rfl, Same.seqT o3.sub ha, fun hw => ?_, fun _ p hp => ?_⟩)
    · have rc := rps_cut r lo' hi'
      rw [cutV_whole hw] at rc
      exact q _ F3 H3 o3 ss (rp_tup.mpr ⟨a, xs, rfl, ha, rc⟩)
    · have s := same_upd (u := .tup (cutV xs lo' hi')) (o3.free hp).1
      exact q _ _ _ (o3.push _ hp) (ss.trans s) (rp_tup.mpr ⟨p, _, rfl, SqT.of upd_same, (rps_cut r lo' hi').mono s⟩)
  · cases e4
    obtain ⟨a, xs, rfl, ha, r⟩ := rp_lst.mp r3
    refine .inr (.inr ⟨a, xs, rfl, SqL.of (o3.sub _ _ ha), fun p hp => ?_⟩)
    have s := same_upd (u := .lst (cutV xs lo' hi')) (o3.free hp).1
    exact q _ _ _ (o3.push _ hp) (ss.trans s) (rp_lst.mpr ⟨p, _, rfl, upd_same, (rps_cut r lo' hi').mono s⟩)
  · cases e4
    obtain ⟨a, xs, rfl, ha, r⟩ := rp_rol.mp r3
    refine .inr (.inr ⟨a, xs, rfl, o3.sub.seq ha, fun p hp => ?_⟩)
    have s := same_upd (u := .lst (cutV xs lo' hi')) (o3.free hp).1
    exact q _ _ _ (o3.push _ hp) (ss.trans s) (rp_lst.mpr ⟨p, _, rfl, upd_same, (rps_cut r lo' hi').mono s⟩)
  · cases e4
/-- a slice of an owned list's name -/
theorem pf_sliceO {i : Nat} {x : Str} {p : Pos} (hl : POD X lo tl l) (hh : POD X hi th h) (hN : X.N[i]? = some x := by rfl) (hv : Vis X.env.scope x := by first | exact Or.inl rfl | exact Or.inr (Or.inl rfl) | exact Or.inr (Or.inr rfl))
    (hd : (x == ("__debug__" : Str)) = false := by decide) (hcd : (x == ("__classdict__" : Str)) = false := by decide) :
    PF X (.Subscript (.Name x p) (.Slice lo hi none p2) pos) (tSl (rSlAll X.K) (tVar i) tl th) (eSlL (eOwn i) l h) := by
  refine ⟨pe_slice sl_all (pe_var hN hv hd hcd) hl.pe hh.pe, fun W F0 σ ρ F H ds Q o e q => ?_⟩
  obtain ⟨ds0, e1, e'⟩ := R.of_bind e
  obtain ⟨lo', e2, e''⟩ := R.of_bind e'
  obtain ⟨hi', e3, e4⟩ := R.of_bind e''
  cases e4
  unfold eOwn at e1
  split at e1
  · rename_i ds' hd'
    cases e1
    obtain ⟨y, h1, p', vs, ey, hp, hf, hw, r⟩ := slot_at o hd'
    refine ⟨.ref p', by rw [h1, ey], ?_⟩
    refine hl.de W F0 σ ρ F H lo' _ o e2 fun F2 H2 o2 s2 => ?_
    refine hh.de W F0 σ ρ F2 H2 hi' _ o2 e3 fun F3 H3 o3 s3 => ?_
    obtain ⟨y2, h2, p2, vs2, ey2, hp2, hf2, hw2, r2⟩ := slot_at o3 hd'
    rw [h1] at h2
    cases h2
    rw [ey] at ey2
    cases ey2
    refine .inr (.inr ⟨_, _, rfl, SqL.of hp2, fun l' hl' => ?_⟩)
    exact q l' _ F3 _ (o3.pushH _ hl') (s2.trans s3) upd_same (o3.free hl').1 (o3.free hl').2 (o3.apart hl') (rps_cut r2 lo' hi')
  · cases e1
/-- a + b, lists, one of them a slice, a display, ..: a new list -/
def eCat (f g : En → R (List D)) : En → R (List D) := fun ρ => f ρ >>= fun xs => g ρ >>= fun ys => guardR (small (xs.length + ys.length)) >>= fun _ => .ok (xs ++ ys)
theorem pf_cat {a b : Expr} {ta tb : TE} {fa fb : En → R (List D)} (ha : PF X a ta fa) (hb : PF X b tb fb) : PF X (.BinOp a .Add b pos) (tOp (rAddA X.K) ta tb) (eCat fa fb) := by
  refine ⟨pe_op op_addA ha.pe hb.pe, fun W F0 σ ρ F H ds Q o e q => ?_⟩
  obtain ⟨xs, e1, e'⟩ := R.of_bind e
  obtain ⟨ys, e2, e''⟩ := R.of_bind e'
  obtain ⟨u, g, e3⟩ := R.of_bind e''
  cases e3
  refine ha.de W F0 σ ρ F H xs _ o e1 fun p1 vs1 F1 H1 o1 s1 h1 f1 w1 ap1 r1 => ?_
  have s' : Same F1 (upd F1 p1 (.lst vs1)) := same_upd f1
  have o1' := o1.freezeAt h1 f1 w1 ap1
  refine hb.de W F0 σ ρ _ H1 ys _ o1' e2 fun p2 vs2 F2 H2 o2 s2 h2 f2 w2 ap2 r2 => ?_
  have k1 := o2.sub _ _ (s2 _ _ (upd_same (H := F1) (a := p1) (o := .lst vs1)))
  have r1' := (r1.mono s').mono s2
  refine .inr (.inr (.inr ⟨p1, p2, vs1, vs2, rfl, rfl, k1, h2, by rw [r1'.length, r2.length]; exact of_small (of_guard g), fun l hl => ?_⟩))
  exact q l _ F2 _ (o2.pushH _ hl) ((s1.trans s').trans s2) upd_same (o2.free hl).1 (o2.free hl).2 (o2.apart hl) (r1'.append r2)
end
/-! text[::-1] -/
def revS (z : Str) : Str := ⟨z.cps.toList.reverse.toArray⟩
def tRevS (te : TE) : TE := fun σ H Q => te σ H fun x H1 => ∃ z, x = .str z ∧ z.length ≤ sizeLine ∧ Q (.str (revS z)) H1
theorem sliceBy_rev (x : Str) (u : Tok) : Txt.sliceBy x none none (-1, u) = revS x := by
  refine str_ext_getD (by rw [step_rev_len]; simp [revS, Str.length]) fun i hi => ?_
  rw [step_rev_len] at hi
  rw [step_rev_getD x u i hi]
  unfold revS
  have h1 : i < x.cps.toList.reverse.length := by simpa [Str.length] using hi
  have h2 : x.length - 1 - i < x.cps.size := by have : x.length = x.cps.size := rfl; omega
  simp only [Array.getD_eq_getD_getElem?, List.getElem?_toArray]
  rw [List.getElem?_eq_getElem h1, List.getElem_reverse]
  have h3 : x.cps[x.length - 1 - i]? = some x.cps[x.length - 1 - i] := Array.getElem?_eq_getElem h2
  rw [h3]
  simp [Str.length]
section
variable {X : Cx} {e : Expr} {te : TE} {k : Nat} {p1 p2 p3 pos : Pos}
theorem pe_revS (he : PE X e te) : PE X (.Subscript e (.Slice none none (some (.UnaryOp .USub (.Constant (.int 1) k p1) p2)) p3) pos) (tRevS te) := by
  refine ⟨fun pins s σ H Q I h => ?_⟩
  refine Subscript_ (thn (he.run pins s σ H _ I h) fun v s1 ⟨x, H1, I1, r1, q1⟩ => ?_)
  obtain ⟨z, ex, hz, q⟩ := q1
  subst ex
  obtain ⟨t, rfl⟩ := r1
  have hst : PO X (some (.UnaryOp .USub (.Constant (.int 1) k p1) p2)) (tPart (tUn (rU fun i => .int (-i)) (tC (.int 1)))) := po_some (pe_un un_neg pe_int)
  refine wpAny_Slice (thn (po_none.run pins s1 σ H1 (fun o H2 => o = none ∧ H2 = H1) I1 ⟨rfl, rfl⟩) fun vl s2 ⟨l, H2, I2, pl, el, e2⟩ => ?_)
  subst el e2
  refine thn (po_none.run pins s2 σ H2 (fun o H3 => o = none ∧ H3 = H2) I2 ⟨rfl, rfl⟩) fun vu s3 ⟨u, H3, I3, pu, eu, e3⟩ => ?_
  subst eu e3
  refine thn (hst.run pins s3 σ H3 (fun o H4 => o = some (-1) ∧ H4 = H3) I3 ⟨1, rfl, -1, rfl, rfl, rfl⟩) fun vs s4 ⟨o, H4, I4, ps, eo, e4⟩ => ?_
  subst eo e4
  have I5 : Inv X pins σ H4 { s4 with heap := s4.heap.push { cls := .type "slice", data := .fields #[vl, vu, vs] } } := I4.kept (t' := s4.toks) fun b ob q => Heap.get?_push_of_some _ q
  obtain ⟨l, rfl, el⟩ := IsPart.raw pl
  obtain ⟨u, rfl, eu⟩ := IsPart.raw pu
  obtain ⟨st, rfl, es⟩ := IsPart.raw ps
  cases l with
  | some _ => cases el
  | none =>
  cases u with
  | some _ => cases eu
  | none =>
  cases st with
  | none => cases es
  | some st =>
  obtain ⟨j, tj⟩ := st
  have ej : j = -1 := by simpa using es
  subst ej
  show wpAny (model X.prog X.w) X.A (subscriptTail e (.Slice none none (some (.UnaryOp .USub (.Constant (.int 1) k p1) p2)) p3) (.str z t) (.ref s4.heap.objs.size)) (EP X pins σ Q) X.xe _
  refine tail_any (ops := [.ref s4.heap.objs.size, .str z t]) (typeIs_str _ _ _) F.slot_str_getitem.lookup ?_ (by with_unfolding_all rfl)
  refine wpAny_getItem_str_slice (l := none) (u := none) (st := some (-1, tj)) ⟨_, Heap.get?_push_size _ rfl, rfl, rfl⟩ rfl ?_
  have hr := sliceBy_rev z tj
  have hl : (revS z).length ≤ sizeLine := by
    have : (revS z).length = z.length := by simp [revS, Str.length]
    rw [this]; exact hz
  unfold Txt.sliceBy slicePicked at hr
  rw [if_neg (by
    have : ((((some ((-1 : Int), tj)).map (·.1)).getD 1 == 1)) = false := rfl
    rw [this]; simp)] at hr
  show Made.post (if (((-1 : Int) == 1) && (Builtin.Str.strSliceIndices none none (-1) z.length).length == z.length) = true then Made.val (.str z t)
    else Made.str ⟨((Builtin.Str.strSliceIndices none none (-1) z.length).filterMap (z.cps[·]?)).toArray⟩) (EP X pins σ Q) _
  rw [if_neg (by
    have : (((-1 : Int) == 1)) = false := rfl
    rw [this]; simp)]
  have hr' : (⟨((Builtin.Str.strSliceIndices none none (-1) z.length).filterMap (z.cps[·]?)).toArray⟩ : Str) = revS z := hr
  rw [hr']
  exact ⟨hl, .str _, H4, I5.tok _, ⟨_, rfl⟩, q⟩
def dRev : D → R D
  | .str z => guardR (small z.length) >>= fun _ => .ok (.str (revS z))
  | _ => .bad
theorem pd_revS {f : En → R D} (he : PD X e te f) : PD X (.Subscript e (.Slice none none (some (.UnaryOp .USub (.Constant (.int 1) k p1) p2)) p3) pos) (tRevS te) (fun ρ => f ρ >>= dRev) := by
  refine ⟨pe_revS he.pe, fun W F0 σ ρ F H d Q o e q => ?_⟩
  obtain ⟨x, e1, e2⟩ := R.of_bind e
  refine he.de W F0 σ ρ F H x _ o e1 fun v F1 H1 o1 s1 r1 => ?_
  cases x <;> first | (cases e2; done) | skip
  obtain ⟨u, g, e3⟩ := R.of_bind e2
  cases e3
  exact ⟨_, rp_str.mp r1, of_small (of_guard g), q _ F1 H1 o1 s1 (rp_str.mpr rfl)⟩
end
end DD

namespace DD
open PySem PySem.Spec PyProof.Rows L2

/-! ### what is walked -/
def Walks (K : PySem.W.Frag) (F : Hp) (J : It) (ds : List D) : Prop := ∀ (F2 H2 : Hp), Same F F2 → Same F2 H2 → ∀ i : Nat, (i = ds.length → J.stop i H2) ∧
  ∀ d, ds[i]? = some d → J.go i H2 ∧ ∀ x H3, J.yld i H2 x H3 → (H3 = H2 ∧ Rp K F2 x d) ∨ ∃ p u, H2 p = none ∧ H3 = upd H2 p u ∧ Rp K (upd F2 p u) x d
def DI (K : PySem.W.Frag) (wi : TI) (f : En → R (List D)) : Prop := ∀ (W F0 : Hp) (σ : L2.St) (ρ : En) (F H : Hp) (ds : List D) (Rk : It → Hp → Prop), Ok K W F0 σ ρ F H → f ρ = .ok ds →
  (∀ J F' H', Ok K W F0 σ ρ F' H' → Same F F' → Walks K F' J ds → Rk J H') → wi σ H Rk
structure PID (X : Cx) (tg iter : Expr) (wi : TI) (f : En → R (List D)) : Prop where
  pe : PI X tg iter wi
  de : DI X.K wi f
section
variable {X : Cx} {tg l : Expr} {tl : TE} {f : En → R D}
def asLst : D → R (List D)
  | .lst ds => .ok ds
  | _ => .bad
def asTup : D → R (List D)
  | .tup ds => .ok ds
  | _ => .bad
def chars (z : Str) : List D := z.cps.toList.map fun c => D.str ⟨#[c]⟩
def asChs : D → R (List D)
  | .str z => .ok (chars z)
  | _ => .bad
theorem pid_list (h : PD X l tl f) : PID X tg l (iList X.K tl) (fun ρ => f ρ >>= asLst) := by
  refine ⟨pi_list h.pe, fun W F0 σ ρ F H ds Rk o e q => ?_⟩
  obtain ⟨d, e1, e2⟩ := R.of_bind e
  refine h.de W F0 σ ρ F H d _ o e1 fun v F1 H1 o1 s1 r1 => ?_
  cases d <;> first | (cases e2; done) | skip
  cases e2
  obtain ⟨a, xs, rfl, ha, r⟩ := rp_lst.mp r1
  refine ⟨a, rfl, ⟨xs, SqL.of (o1.sub _ _ ha)⟩, q _ F1 H1 o1 s1 fun F2 H2 s2 s3 i => ⟨fun hi => ?_, fun d hd => ?_⟩⟩
  · exact ⟨xs, SqL.of (s3 _ _ (s2 _ _ ha)), by rw [r.length, hi]; exact Nat.le_refl _⟩
  · obtain ⟨v, hv, rv⟩ := r.get hd
    refine ⟨⟨xs, v, SqL.of (s3 _ _ (s2 _ _ ha)), hv⟩, fun x H3 hy => .inl ⟨hy.1, ?_⟩⟩
    have e := hy.2 xs (SqL.of (s3 _ _ (s2 _ _ ha)))
    rw [hv] at e
    cases e
    exact rv.mono s2
theorem pid_tup (h : PD X l tl f) : PID X tg l (iTup X.K tl) (fun ρ => f ρ >>= asTup) := by
  refine ⟨pi_tup h.pe, fun W F0 σ ρ F H ds Rk o e q => ?_⟩
  obtain ⟨d, e1, e2⟩ := R.of_bind e
  refine h.de W F0 σ ρ F H d _ o e1 fun v F1 H1 o1 s1 r1 => ?_
  cases d <;> first | (cases e2; done) | skip
  cases e2
  obtain ⟨a, xs, rfl, ha, r⟩ := rp_tup.mp r1
  refine ⟨a, rfl, ⟨xs, Same.seqT o1.sub ha⟩, q _ F1 H1 o1 s1 fun F2 H2 s2 s3 i => ⟨fun hi => ?_, fun d hd => ?_⟩⟩
  · exact ⟨xs, Same.seqT s3 (Same.seqT s2 ha), by rw [r.length, hi]; exact Nat.le_refl _⟩
  · obtain ⟨v, hv, rv⟩ := r.get hd
    refine ⟨⟨xs, v, Same.seqT s3 (Same.seqT s2 ha), hv⟩, fun x H3 hy => .inl ⟨hy.1, ?_⟩⟩
    have e := hy.2 xs (Same.seqT s3 (Same.seqT s2 ha))
    rw [hv] at e
    cases e
    exact rv.mono s2
theorem pid_str (h : PD X l tl f) : PID X tg l (iStr tl) (fun ρ => f ρ >>= asChs) := by
  refine ⟨pi_str h.pe, fun W F0 σ ρ F H ds Rk o e q => ?_⟩
  obtain ⟨d, e1, e2⟩ := R.of_bind e
  refine h.de W F0 σ ρ F H d _ o e1 fun v F1 H1 o1 s1 r1 => ?_
  cases d <;> first | (cases e2; done) | skip
  cases e2
  rename_i z
  refine ⟨z, rp_str.mp r1, q _ F1 H1 o1 s1 fun F2 H2 s2 s3 i => ⟨fun hi => ?_, fun d hd => ?_⟩⟩
  · show z.cps.size ≤ i
    rw [hi]; simp [chars]
  · have hi : i < z.cps.size := by
      have := (List.getElem?_eq_some_iff.mp hd).1
      simpa [chars] using this
    refine ⟨hi, fun x H3 hy => .inl ⟨hy.1, ?_⟩⟩
    obtain ⟨c, hc, rfl⟩ := hy.2
    unfold chars at hd
    rw [List.getElem?_map, Array.getElem?_toList, hc] at hd
    cases hd
    exact rp_str.mpr rfl
/-- 0, 1, .. below n; lo, .. below hi -/
def rngD (lo : Int) (n : Nat) : List D := (List.range n).map fun (k : Nat) => D.int (lo + (k : Int))
theorem walks_rng {K : PySem.W.Frag} {F : Hp} (lo : Int) (n : Nat) : Walks K F (Itr lo n) (rngD lo n) := fun F2 H2 s2 s3 i => by
  refine ⟨fun hi => ?_, fun d hd => ?_⟩
  · show n ≤ i
    rw [hi]; simp [rngD]
  · have hi : i < n := by
      have := (List.getElem?_eq_some_iff.mp hd).1
      simpa [rngD] using this
    refine ⟨hi, fun x H3 hy => .inl ⟨hy.1, ?_⟩⟩
    unfold rngD at hd
    rw [List.getElem?_map, List.getElem?_range hi] at hd
    cases hd
    rw [hy.2]
    exact rp_int.mpr rfl
def in62 (i : Int) : Bool := decide (-(2 ^ 62) ≤ i) && decide (i < 2 ^ 62)
theorem of_in62 {i : Int} (h : in62 i = true) : -(2 ^ 62) ≤ i ∧ i < 2 ^ 62 := by
  unfold in62 at h
  rw [Bool.and_eq_true] at h
  exact ⟨of_decide_eq_true h.1, of_decide_eq_true h.2⟩
def dRng1 : List D → R (List D)
  | [.int j] => guardR (in62 j) >>= fun _ => .ok (rngD 0 j.toNat)
  | _ => .bad
def dRng2 : List D → R (List D)
  | [.int i, .int j] => guardR (in62 i && in62 j) >>= fun _ => .ok (rngD i (j - i).toNat)
  | _ => .bad
theorem pid_range1 {a : Expr} {ta : TA} {fa : En → R (List D)} {p pos : Pos} (hm : X.mg "range" = none) (ha : PAD X [a] ta fa) (hg : Gl X "range" := by rfl) (hs : starEach [a] X.env = [(false, eval a X.env)] := by rfl) : PID X tg (.Call (.Name "range" p) [a] [] pos) (iRng1 ta) (fun ρ => fa ρ >>= dRng1) := by
  refine ⟨pi_range1 hg hm ha.pe hs, fun W F0 σ ρ F H ds Rk o e q => ?_⟩
  obtain ⟨xs, e1, e2⟩ := R.of_bind e
  refine ha.de W F0 σ ρ F H xs _ o e1 fun vs F1 H1 o1 s1 r1 => ?_
  unfold dRng1 at e2
  split at e2
  · obtain ⟨u, g, e3⟩ := R.of_bind e2
    cases e3
    obtain ⟨y, ys, rfl, r2, r3⟩ := r1.of_cons
    cases r3.of_nil
    cases rp_int.mp r2
    exact ⟨_, rfl, (of_in62 (of_guard g)).1, (of_in62 (of_guard g)).2, q _ F1 H1 o1 s1 (walks_rng _ _)⟩
  · cases e2
theorem pid_range2 {a b : Expr} {ta : TA} {fa : En → R (List D)} {p pos : Pos} (hm : X.mg "range" = none) (ha : PAD X [a, b] ta fa) (hg : Gl X "range" := by rfl) (hs : starEach [a, b] X.env = [(false, eval a X.env), (false, eval b X.env)] := by rfl) (hs2 : starEach [b] X.env = [(false, eval b X.env)] := by rfl) :
    PID X tg (.Call (.Name "range" p) [a, b] [] pos) (iRng2 ta) (fun ρ => fa ρ >>= dRng2) := by
  refine ⟨pi_range2 hg hm ha.pe hs hs2, fun W F0 σ ρ F H ds Rk o e q => ?_⟩
  obtain ⟨xs, e1, e2⟩ := R.of_bind e
  refine ha.de W F0 σ ρ F H xs _ o e1 fun vs F1 H1 o1 s1 r1 => ?_
  unfold dRng2 at e2
  split at e2
  · obtain ⟨u, g, e3⟩ := R.of_bind e2
    cases e3
    obtain ⟨y, ys, rfl, r2, r3⟩ := r1.of_cons
    obtain ⟨z, zs, rfl, r4, r5⟩ := r3.of_cons
    cases r5.of_nil
    cases rp_int.mp r2
    cases rp_int.mp r4
    have g' := of_guard g
    rw [Bool.and_eq_true] at g'
    exact ⟨_, _, rfl, ⟨(of_in62 g'.1).1, (of_in62 g'.1).2, (of_in62 g'.2).1, (of_in62 g'.2).2⟩, q _ F1 H1 o1 s1 (walks_rng _ _)⟩
  · cases e2
end

/-! ### targets -/
def DG (K : PySem.W.Frag) (g : TG) (ix : List Nat) (f : D → En → R En) : Prop := ∀ (W F0 : Hp) (σ : L2.St) (ρ ρ' : En) (F H : Hp) (v : V) (d : D) (Q : L2.St → Hp → Prop), Ok K W F0 σ ρ F H → Rp K F v d → f d ρ = .ok ρ' →
  (∀ σ', Ok K W F0 σ' ρ' F H → σ'.length = σ.length → (∀ i, i ∉ ix → σ'[i]? = σ[i]? ∧ ρ'[i]? = ρ[i]?) → Q σ' H) → g v σ H Q
structure PGD (X : Cx) (tg : Expr) (g : TG) (ix : List Nat) (f : D → En → R En) : Prop where
  pe : PG X tg g
  de : DG X.K g ix f
def DGs (K : PySem.W.Frag) (g : TGs) (ix : List Nat) (f : List D → En → R En) : Prop := ∀ (W F0 : Hp) (σ : L2.St) (ρ ρ' : En) (F H : Hp) (vs : List V) (ds : List D) (Q : L2.St → Hp → Prop), Ok K W F0 σ ρ F H → Rps K F vs ds → f ds ρ = .ok ρ' →
  (∀ σ', Ok K W F0 σ' ρ' F H → σ'.length = σ.length → (∀ i, i ∉ ix → σ'[i]? = σ[i]? ∧ ρ'[i]? = ρ[i]?) → Q σ' H) → g vs σ H Q
structure PGsD (X : Cx) (ts : List Expr) (g : TGs) (ix : List Nat) (f : List D → En → R En) : Prop where
  pe : PGs X ts g
  de : DGs X.K g ix f
def tgN (i : Nat) : D → En → R En := fun d ρ => .ok (ρ.set i (.fz d))
def tgsNil : List D → En → R En := fun ds ρ => match ds with
  | [] => .ok ρ
  | _ => .bad
def tgsCons (f : D → En → R En) (g : List D → En → R En) : List D → En → R En := fun ds ρ => match ds with
  | d :: r => f d ρ >>= fun ρ' => g r ρ'
  | _ => .bad
def tgT (n : Nat) (f : List D → En → R En) : D → En → R En := fun d ρ => match d with
  | .tup ds => guardR (ds.length == n) >>= fun _ => f ds ρ
  | _ => .bad
section
variable {X : Cx} {pos : Pos}
theorem pgd_name {i : Nat} {x : Str} (hN : X.N.Nodup) (hi : X.N[i]? = some x := by rfl) (hx : Loc X.env.scope x := by first | exact Or.inl rfl | exact Or.inr rfl) (hf : X.fn x = true ∨ X.env.scope.names.lookup x = some .local := by first | exact .inl rfl | exact .inr rfl | assumption) :
    PGD X (.Name x pos) (gName i) [i] (tgN i) := by
  refine ⟨pg_name hN hi hx hf, fun W F0 σ ρ ρ' F H v d Q o r e q => ?_⟩
  cases e
  refine q _ (o.setF i r) (List.length_set ..) fun j hj => ?_
  have n : i ≠ j := fun z => hj (by simp [z])
  exact ⟨List.getElem?_set_ne n, List.getElem?_set_ne n⟩
theorem pgsd_nil : PGsD X [] gNil [] tgsNil := by
  refine ⟨pgs_nil, fun W F0 σ ρ ρ' F H vs ds Q o r e q => ?_⟩
  unfold tgsNil at e
  split at e
  · cases e
    exact ⟨r.of_nil, q σ o rfl fun _ _ => ⟨rfl, rfl⟩⟩
  · cases e
theorem pgsd_cons {e : Expr} {es : List Expr} {t : TG} {u : TGs} {ix ix' : List Nat} {f : D → En → R En} {g : List D → En → R En} (h1 : PGD X e t ix f) (h2 : PGsD X es u ix' g)
    (hs : (assignEach (e :: es) X.env).map (·.2) = assign e X.env :: (assignEach es X.env).map (·.2) := by rfl) : PGsD X (e :: es) (gCons t u) (ix ++ ix') (tgsCons f g) := by
  refine ⟨pgs_cons h1.pe h2.pe hs, fun W F0 σ ρ ρ' F H vs ds Q o r e q => ?_⟩
  unfold tgsCons at e
  split at e
  · obtain ⟨ρ1, e1, e2⟩ := R.of_bind e
    obtain ⟨y, ys, rfl, r1, r2⟩ := r.of_cons
    refine ⟨y, ys, rfl, h1.de W F0 σ ρ ρ1 F H y _ _ o r1 e1 fun σ1 o1 l1 k1 => ?_⟩
    refine h2.de W F0 σ1 ρ1 ρ' F H ys _ _ o1 r2 e2 fun σ2 o2 l2 k2 => q σ2 o2 (l2.trans l1) fun i hi => ?_
    have a := k2 i fun z => hi (List.mem_append_right _ z)
    have b := k1 i fun z => hi (List.mem_append_left _ z)
    exact ⟨a.1.trans b.1, a.2.trans b.2⟩
  · cases e
theorem pgd_tup {es : List Expr} {k : Nat} {t : TGs} {ix : List Nat} {n : Nat} {f : List D → En → R En} (hc : X.calm = true) (h : PGsD X es t ix f)
    (hn : (assignEach es X.env).length = n := by rfl) (hst : (assignEach es X.env).findIdx? (·.1) = none := by rfl) : PGD X (.Tuple es k pos) (gTup X.K n t) ix (tgT n f) := by
  refine ⟨pg_tup hc h.pe hn hst, fun W F0 σ ρ ρ' F H v d Q o r e q => ?_⟩
  unfold tgT at e
  split at e
  · obtain ⟨u, g, e2⟩ := R.of_bind e
    obtain ⟨a, xs, rfl, ha, r⟩ := rp_tup.mp r
    exact ⟨a, xs, rfl, Same.seqT o.sub ha, by rw [r.length]; exact beq_iff_eq.mp (of_guard g), h.de W F0 σ ρ ρ' F H xs _ Q o r e2 q⟩
  · cases e
end

/-! ### list comprehensions -/
def wipeE (ρ : En) : List Nat → En
  | [] => ρ
  | v :: vs => (wipeE ρ vs).set v .un
theorem wipeE_length (ρ : En) : ∀ vs : List Nat, (wipeE ρ vs).length = ρ.length
  | [] => rfl
  | v :: vs => by unfold wipeE; rw [List.length_set, wipeE_length ρ vs]
theorem wipeE_get {ρ : En} {i : Nat} : ∀ {vs : List Nat}, i ∉ vs → (wipeE ρ vs)[i]? = ρ[i]?
  | [], _ => rfl
  | v :: vs, h => by
    unfold wipeE
    rw [List.getElem?_set_ne (fun z => h (by simp [z]))]
    exact wipeE_get fun z => h (List.mem_cons_of_mem _ z)
theorem wipeE_un {ρ : En} {i : Nat} : ∀ {vs : List Nat}, i ∈ vs → i < ρ.length → (wipeE ρ vs)[i]? = some .un
  | v :: vs, h, hi => by
    unfold wipeE
    by_cases hv : v = i
    · subst hv
      rw [List.getElem?_set_self (by rw [wipeE_length]; exact hi)]
    · rw [List.getElem?_set_ne hv]
      rcases List.mem_cons.mp h with z | z
      · exact absurd z.symm hv
      · exact wipeE_un z hi
theorem wipe_get {σ : L2.St} {i : Nat} : ∀ {vs : List Nat}, i ∉ vs → (wipe σ vs)[i]? = σ[i]?
  | [], _ => rfl
  | v :: vs, h => by
    unfold wipe
    rw [List.getElem?_set_ne (fun z => h (by simp [z]))]
    exact wipe_get fun z => h (List.mem_cons_of_mem _ z)
theorem wipeE_same {ρ ρ' : En} {vs : List Nat} (hl : ρ'.length = ρ.length) (h : ∀ i, i ∉ vs → ρ'[i]? = (wipeE ρ vs)[i]?) : wipeE ρ' vs = wipeE ρ vs := by
  apply List.ext_getElem?
  intro i
  by_cases hi : i ∈ vs
  · by_cases hl' : i < ρ.length
    · rw [wipeE_un hi hl', wipeE_un hi (by rw [hl]; exact hl')]
    · rw [List.getElem?_eq_none (by rw [wipeE_length]; omega), List.getElem?_eq_none (by rw [wipeE_length]; omega)]
  · rw [wipeE_get hi]
    exact h i hi
theorem wipe_in {σ : L2.St} {i : Nat} : ∀ {vs : List Nat}, i ∈ vs → i < σ.length → (wipe σ vs)[i]? = some none
  | v :: vs, h, hi => by
    unfold wipe
    by_cases hv : v = i
    · subst hv
      rw [List.getElem?_set_self (by rw [wipe_length]; exact hi)]
    · rw [List.getElem?_set_ne hv]
      rcases List.mem_cons.mp h with z | z
      · exact absurd z.symm hv
      · exact wipe_in z hi
theorem wipe_same {σ σ' : L2.St} {vs : List Nat} (hl : σ'.length = σ.length) (h : ∀ i, i ∉ vs → σ'[i]? = (wipe σ vs)[i]?) : wipe σ' vs = wipe σ vs := by
  apply List.ext_getElem?
  intro i
  by_cases hi : i ∈ vs
  · by_cases hl' : i < σ.length
    · rw [wipe_in hi hl', wipe_in hi (by rw [hl]; exact hl')]
    · rw [List.getElem?_eq_none (by rw [wipe_length]; omega), List.getElem?_eq_none (by rw [wipe_length]; omega)]
  · rw [wipe_get hi]
    exact h i hi
section
variable {K : PySem.W.Frag} {W F0 F H F' H' : Hp} {σ : L2.St} {ρ : En}
theorem Ok.wipe (o : Ok K W F0 σ ρ F H) (vs : List Nat) : Ok K W F0 (L2.wipe σ vs) (wipeE ρ vs) F H := by
  refine ⟨o.toOkB, by rw [wipe_length, wipeE_length]; exact o.len, fun i x s h1 h2 => ?_, fun i j p ds ds' h1 h2 h3 h4 => ?_⟩
  · by_cases hi : i ∈ vs
    · have hl : i < ρ.length := by
        have := (List.getElem?_eq_some_iff.mp h2).1
        rwa [wipeE_length] at this
      rw [wipeE_un hi hl] at h2
      cases h2
      trivial
    · rw [wipe_get hi] at h1
      rw [wipeE_get hi] at h2
      exact o.slots i x s h1 h2
  · have out : ∀ {i : Nat} {ds : List D}, (wipeE ρ vs)[i]? = some (.ow ds) → i ∉ vs := fun {i ds} h hi => by
      have hl : i < ρ.length := by
        have := (List.getElem?_eq_some_iff.mp h).1
        rwa [wipeE_length] at this
      rw [wipeE_un hi hl] at h; cases h
    have a := out h1
    have b := out h2
    rw [wipeE_get a] at h1
    rw [wipeE_get b] at h2
    rw [wipe_get a] at h3
    rw [wipe_get b] at h4
    exact o.dist i j p ds ds' h1 h2 h3 h4
def noOwn (ρ : En) (vs : List Nat) : Bool := vs.all fun i => match ρ[i]? with
  | some (.ow _) => false
  | _ => true
theorem Ok.unwipe (o : Ok K W F0 σ ρ F H) {vs : List Nat} (n : noOwn ρ vs = true) (o' : Ok K W F0 (L2.wipe σ vs) (wipeE ρ vs) F' H') (s : Same F F') : Ok K W F0 σ ρ F' H' := by
  refine ⟨o'.toOkB, o.len, fun i x sl h1 h2 => ?_, o.dist⟩
  by_cases hi : i ∈ vs
  · have q := o.slots i x sl h1 h2
    have n' := List.all_eq_true.mp n i hi
    rw [h2] at n'
    cases sl with
    | un => trivial
    | fz d =>
      obtain ⟨v, e, r⟩ := q
      exact ⟨v, e, r.mono s⟩
    | ow ds => cases n'
  · exact o'.slots i x sl (by rw [wipe_get hi]; exact h1) (by rw [wipeE_get hi]; exact h2)
/-- what stands at p is nobody's: it may be kept as foreign -/
theorem Ok.guard {p : Addr} {u : HO} (o : Ok K W F0 σ ρ F H) (h : H p = some u) (f : F p = none) (ap : Apart σ ρ p) : Ok K (upd W p u) F0 σ ρ F H := by
  refine ⟨⟨o.sub, fun b x e => ?_, o.ext, fun b x e1 e2 => ?_⟩, o.len, fun i x s h1 h2 => ?_, o.dist⟩
  · by_cases hb : b = p
    · subst hb; rw [upd_same] at e; cases e; exact h
    · rw [upd_ne hb] at e; exact o.wld b x e
  · by_cases hb : b = p
    · subst hb; exact f
    · rw [upd_ne hb] at e1; exact o.new b x e1 e2
  · have q := o.slots i x s h1 h2
    cases s with
    | un => trivial
    | fz d => exact q
    | ow ds =>
      obtain ⟨p', vs, e, h', f', w, r⟩ := q
      refine ⟨p', vs, e, h', f', ?_, r⟩
      rw [upd_ne (fun z => ap i ds h2 (by rw [h1, e, z]))]
      exact w
theorem Ok.unguard {p : Addr} {u : HO} (o : Ok K (upd W p u) F0 σ ρ F H) (hw : W p = none) : Ok K W F0 σ ρ F H := by
  refine ⟨⟨o.sub, fun b x e => o.wld b x (by rw [upd_ne (ne_of_none e hw)]; exact e), o.ext, fun b x e1 e2 => o.new b x (by rw [upd_ne (ne_of_none e1 hw)]; exact e1) e2⟩, o.len, fun i x s h1 h2 => ?_, o.dist⟩
  have q := o.slots i x s h1 h2
  cases s with
  | un => trivial
  | fz d => exact q
  | ow ds =>
    obtain ⟨p', vs, e, h', f', w, r⟩ := q
    refine ⟨p', vs, e, h', f', ?_, r⟩
    by_cases hb : p' = p
    · subst hb; exact hw
    · rw [upd_ne hb] at w; exact w
/-- nobody's object is changed -/
theorem Ok.alter {p : Addr} {u : HO} (o : Ok K W F0 σ ρ F H) (f : F p = none) (hw : W p = none) (ap : Apart σ ρ p) : Ok K W F0 σ ρ F (upd H p u) := by
  refine ⟨⟨fun b x e => ?_, fun b x e => ?_, o.ext, o.new⟩, o.len, fun i x s h1 h2 => ?_, o.dist⟩
  · rw [upd_ne (ne_of_none e f)]; exact o.sub b x e
  · rw [upd_ne (ne_of_none e hw)]; exact o.wld b x e
  · have q := o.slots i x s h1 h2
    cases s with
    | un => trivial
    | fz d => exact q
    | ow ds =>
      obtain ⟨p', vs, e, h', f', w, r⟩ := q
      refine ⟨p', vs, e, ?_, f', w, r⟩
      rw [upd_ne (fun z => ap i ds h2 (by rw [h1, e, z]))]
      exact h'
theorem Apart.wipe {p : Addr} (h : Apart σ ρ p) (hl : σ.length = ρ.length) (vs : List Nat) : Apart (L2.wipe σ vs) (wipeE ρ vs) p := fun i ds e q => by
  by_cases hi : i ∈ vs
  · have hl : i < ρ.length := by
      have := (List.getElem?_eq_some_iff.mp e).1
      rwa [wipeE_length] at this
    rw [wipeE_un hi hl] at e; cases e
  · rw [wipeE_get hi] at e
    rw [wipe_get hi] at q
    exact h i ds e q
end
def compR (tg : D → En → R En) (test : En → R Bool) (elt : En → R D) (ρ : En) : List D → R (List D)
  | [] => .ok []
  | d :: ds => tg d ρ >>= fun ρ1 => test ρ1 >>= fun b => if b = true then elt ρ1 >>= fun x => compR tg test elt ρ ds >>= fun xs => .ok (x :: xs) else compR tg test elt ρ ds
def eComp (src : En → R (List D)) (vs : List Nat) (tg : D → En → R En) (test : En → R Bool) (elt : En → R D) : En → R (List D) := fun ρ =>
  src ρ >>= fun ds => guardR (noOwn ρ vs && decide (ds.length < 16777216)) >>= fun _ => compR tg test elt (wipeE ρ vs) ds
def bYes : En → R Bool := fun _ => .ok true
structure PTsD (X : Cx) (ifs : List Expr) (t : TT) (f : En → R Bool) : Prop where
  pe : PTs X ifs t
  de : DT X.K t f
section
variable {X : Cx}
theorem ptsd_nil : PTsD X [] tYes bYes := ⟨pts_nil, fun W F0 σ ρ F H b Q o e q => by cases e; exact q F H o (Same.refl _)⟩
theorem ptsd_one {c : Expr} {t : TT} {f : En → R Bool} (h : PTD X c t f) : PTsD X [c] t f := ⟨pts_one h.pe, h.de⟩
theorem take_succ {α : Type} {l : List α} {i : Nat} {x : α} (h : l[i]? = some x) : l.drop i = x :: l.drop (i + 1) := by
  obtain ⟨hi, e⟩ := List.getElem?_eq_some_iff.mp h
  rw [List.drop_eq_getElem_cons hi, e]
theorem df_lc {K : PySem.W.Frag} {wi : TI} {src : En → R (List D)} {g : TG} {ix : List Nat} {tgf : D → En → R En} {tt : TT} {test : En → R Bool} {te : TE} {elt : En → R D} {vs : List Nat}
    (hi : DI K wi src) (hg : DG K g ix tgf) (ht : DT K tt test) (he : DE K te elt) (hix : ∀ i ∈ ix, i ∈ vs) : DF K (tLc wi g tt te vs) (eComp src vs tgf test elt) := fun W F0 σ ρ F H ds Q o e q => by
  obtain ⟨xs, e1, e'⟩ := R.of_bind e
  obtain ⟨u, gd, e2⟩ := R.of_bind e'
  have gd' := of_guard gd
  rw [Bool.and_eq_true] at gd'
  have hlen : xs.length < 16777216 := of_decide_eq_true gd'.2
  refine hi W F0 σ ρ F H xs _ o e1 fun J F1 H1 o1 s1 wk => ?_
  intro D hD
  have fD := (o1.free hD).1
  have wD := (o1.free hD).2
  have apD := o1.apart hD
  have o1' := o1.pushH (.lst []) hD
  -- the invariant
  refine ⟨fun i m H' => m = xs.length - i ∧ i ≤ xs.length ∧ ∃ (F' : Hp) (acc : List V) (ds1 ds2 : List DD.D), Ok K W F1 (wipe σ vs) (wipeE ρ vs) F' H' ∧ H' D = some (.lst acc) ∧ F' D = none ∧ acc.length ≤ i ∧ Rps K F' acc ds1 ∧
    compR tgf test elt (wipeE ρ vs) (xs.drop i) = .ok ds2 ∧ ds = ds1 ++ ds2, ⟨xs.length, rfl, Nat.zero_le _, F1, [], [], ds, (o1'.self).wipe vs, upd_same, fD, Nat.le_refl _, .nil, e2, rfl⟩, ?_⟩
  rintro i m H' ⟨rfl, hil, F', acc, ds1, ds2, o2, hD', fD', hacc, rA, e3, eds⟩
  have sF : Same F1 F' := o2.ext
  have wk' := wk F' H' sF o2.sub i
  by_cases hlt : i < xs.length
  · -- one more turn
    have hx : xs[i]? = some xs[i] := List.getElem?_eq_getElem hlt
    rw [take_succ hx] at e3
    obtain ⟨ρ1, e4, e5⟩ := R.of_bind e3
    obtain ⟨b, e6, e7⟩ := R.of_bind e5
    obtain ⟨hgo, hy⟩ := wk'.2 _ hx
    refine .inr ⟨hgo, fun H2 => ∃ (F2 : Hp) (acc : List V) (ds1 ds2 : List DD.D), Ok K W F1 (wipe σ vs) (wipeE ρ vs) F2 H2 ∧ H2 D = some (.lst acc) ∧ F2 D = none ∧ acc.length ≤ i + 1 ∧ Rps K F2 acc ds1 ∧
      compR tgf test elt (wipeE ρ vs) (xs.drop (i + 1)) = .ok ds2 ∧ ds = ds1 ++ ds2, fun H2 n => ⟨xs.length - (i + 1), by omega, rfl, by omega, n⟩, fun x H3 yl => ?_⟩
    have apD' : Apart (wipe σ vs) (wipeE ρ vs) D := apD.wipe o1.len vs
    -- the item
    have item : ∃ F3, Ok K W F1 (wipe σ vs) (wipeE ρ vs) F3 H3 ∧ Same F' F3 ∧ Rp K F3 x xs[i] ∧ H3 D = some (.lst acc) ∧ F3 D = none := by
      rcases hy x H3 yl with ⟨e8, r8⟩ | ⟨p, u', hp, e8, r8⟩
      · subst e8; exact ⟨F', o2, Same.refl _, r8, hD', fD'⟩
      · subst e8
        have np : D ≠ p := ne_of_none hD' hp
        exact ⟨_, o2.push u' hp, same_upd (o2.free hp).1, r8, by rw [upd_ne np]; exact hD', by rw [upd_ne np]; exact fD'⟩
    obtain ⟨F3, o3, s3, r3, hD3, fD3⟩ := item
    have o3' := (o3.guard hD3 fD3 apD').self
    refine hg _ _ _ _ ρ1 F3 H3 x _ _ o3' r3 e4 fun σ1 o4 l4 k4 => ?_
    have ls : σ1.length = σ.length := l4.trans (wipe_length σ vs)
    have wS : wipe σ1 vs = wipe σ vs := wipe_same ls fun j hj => (k4 j fun z => hj (hix j z)).1
    have wE : wipeE ρ1 vs = wipeE ρ vs := wipeE_same (by rw [← o4.len, ls, o1.len]) fun j hj => (k4 j fun z => hj (hix j z)).2
    refine ⟨wS, ?_⟩
    have done : ∀ {F6 H6 : Hp}, Ok K (upd W D (.lst acc)) F3 σ1 ρ1 F6 H6 → Ok K W F1 (wipe σ vs) (wipeE ρ vs) F6 H6 ∧ H6 D = some (.lst acc) ∧ F6 D = none ∧ Same F3 F6 := fun {F6 H6} o6 => by
      have o7 := o6.wipe vs
      rw [wS, wE] at o7
      exact ⟨(o7.unguard wD).rebase o3.toOkB, o6.wld D _ upd_same, o6.new D _ upd_same fD3, o6.ext⟩
    refine ht _ _ _ _ F3 H3 b _ o4 e6 fun F5 H5 o5 s5 => ?_
    cases b with
    | true =>
      rw [if_pos rfl] at e7
      obtain ⟨d', e8, e9⟩ := R.of_bind e7
      obtain ⟨ds3, e10, e11⟩ := R.of_bind e9
      cases e11
      refine iteT (he _ _ _ _ F5 H5 d' _ o5 e8 fun y F6 H6 o6 s6 r6 => ?_)
      obtain ⟨g1, g2, g3, g4⟩ := done o6
      refine ⟨acc, g2, by rw [line_eq]; omega, F6, acc ++ [y], ds1 ++ [d'], ds3, g1.alter g3 wD apD', upd_same, g3, by simp; omega, ((rA.mono s3).mono g4).append (Rps.one r6), e10, by rw [eds, List.append_assoc]; rfl⟩
    | false =>
      rw [if_neg Bool.false_ne_true] at e7
      obtain ⟨g1, g2, g3, g4⟩ := done o5
      exact iteF ⟨F5, acc, ds1, ds2, g1, g2, g3, by omega, (rA.mono s3).mono g4, e7, eds⟩
  · have ei : i = xs.length := by omega
    subst ei
    rw [List.drop_length] at e3
    cases e3
    rw [List.append_nil] at eds
    subst eds
    refine .inl ⟨wk'.1 rfl, ?_⟩
    have o6 := o1.self.unwipe gd'.1 o2 sF
    exact q D acc F' H' (o6.rebase o1.toOkB) (s1.trans sF) hD' fD' wD apD rA
end
end DD

namespace DD
open PySem PySem.Spec PyProof.Rows L2

section
variable {X : Cx}
theorem pf_lc {elt tg iter : Expr} {ifs : List Expr} {scope : Scope} {own : List (Str × Nat)} {pos : Pos} {wi : TI} {g : Shared → Hp → Addr → List (Str × Addr) → List Addr → TG} {ix : List Nat} {tt : Shared → Hp → Addr → List (Str × Addr) → List Addr → TT} {te : Shared → Hp → Addr → List (Str × Addr) → List Addr → TE} {src : En → R (List D)} {tgf : D → En → R En} {test : En → R Bool} {ef : En → R D}
    (hc : X.calm = true) (hN : X.N.Nodup) (hi : PID X tg iter wi src) (ok : BlkOk X.N X.env.scope scope own)
    (hg : ∀ (s : Shared) (H : Hp) (C : Addr) (cl : List (Str × Addr)) (fp : List Addr), PGD (X.blk s H scope (compEnvC scope cl C X.env) fp) tg (g s H C cl fp) ix tgf) (ht : ∀ (s : Shared) (H : Hp) (C : Addr) (cl : List (Str × Addr)) (fp : List Addr), PTsD (X.blk s H scope (compEnvC scope cl C X.env) fp) ifs (tt s H C cl fp) test)
    (he : ∀ (s : Shared) (H : Hp) (C : Addr) (cl : List (Str × Addr)) (fp : List Addr), PD (X.blk s H scope (compEnvC scope cl C X.env) fp) elt (te s H C cl fp) ef) (hix : ∀ i ∈ ix, i ∈ own.map (·.2) := by decide) (hge : ∀ s H C cl fp, g s H C cl fp = g X.s_0 X.H_0 0 [] [] := by intros; rfl) (hte : ∀ s H C cl fp, tt s H C cl fp = tt X.s_0 X.H_0 0 [] [] := by intros; rfl) (hee : ∀ s H C cl fp, te s H C cl fp = te X.s_0 X.H_0 0 [] [] := by intros; rfl) (hs : ∀ x, foldedSetIterable iter X.env x = pure x := by intro _; rfl) :
    PF X (.ListComp elt [⟨tg, iter, ifs, 0⟩] scope pos) (tLc wi (g X.s_0 X.H_0 0 [] []) (tt X.s_0 X.H_0 0 [] []) (te X.s_0 X.H_0 0 [] []) (own.map (·.2))) (eComp src (own.map (·.2)) tgf test ef) :=
  ⟨pe_lc hc hN hi.pe ok (fun s H C cl fp => hge s H C cl fp ▸ (hg s H C cl fp).pe) (fun s H C cl fp => hte s H C cl fp ▸ (ht s H C cl fp).pe) (fun s H C cl fp => hee s H C cl fp ▸ (he s H C cl fp).pe) hs,
    df_lc hi.de (hg X.s_0 X.H_0 0 [] []).de (ht X.s_0 X.H_0 0 [] []).de (he X.s_0 X.H_0 0 [] []).de hix⟩
end

/-! ### methods of texts -/
section
variable {X : Cx} {o e : Expr} {to te : TE} {fo fe : En → R D} {fl : En → R (List D)} {apos pos : Pos}
def dSplit : D → D → R (List D)
  | .str a, .str b => guardR (b.length != 0 && decide (a.length ≤ 16000000)) >>= fun _ => .ok ((Txt.split a b).map D.str)
  | _, _ => .bad
theorem rps_strs {K : PySem.W.Frag} {F : Hp} : ∀ ys : List Str, Rps K F (ys.map V.str) (ys.map D.str)
  | [] => .nil
  | _ :: r => .cons (rp_str.mpr rfl) (rps_strs r)
theorem pf_split (ho : PD X o to fo) (he : PD X e te fe) (hs : starEach [e] X.env = [(false, eval e X.env)] := by rfl) (hbase : attributeBase o "split" X.env (eval o X.env) = eval o X.env := by rfl) (hline : (apos.endLine == pos.line) = true := by rfl) :
    PF X (.Call (.Attribute o "split" apos) [e] [] pos) (tM1 (fun x xs H Q => ∃ a b, x = .str a ∧ xs = [.str b] ∧ (b.length == 0) = false ∧ a.length + 2 ≤ sizeLine ∧ rNewStrs (Txt.split a b) H Q) to te) (fun ρ => fo ρ >>= fun x => fe ρ >>= fun y => dSplit x y) := by
  refine ⟨pe_split ho.pe he.pe hs hbase hline, fun W F0 σ ρ F H ds Q o e q => ?_⟩
  obtain ⟨x, e1, e'⟩ := R.of_bind e
  obtain ⟨y, e2, e3⟩ := R.of_bind e'
  refine ho.de W F0 σ ρ F H x _ o e1 fun v F1 H1 o1 s1 r1 => ?_
  unfold dSplit at e3
  split at e3
  · obtain ⟨u, g, e4⟩ := R.of_bind e3
    cases e4
    rename_i a b
    have g' := of_guard g
    rw [Bool.and_eq_true] at g'
    refine ⟨⟨a, rp_str.mp r1⟩, ?_⟩
    refine he.de W F0 σ ρ F1 H1 _ _ o1 e2 fun w F2 H2 o2 s2 r2 => ?_
    refine ⟨a, b, rp_str.mp r1, by rw [rp_str.mp r2], by simpa using g'.1, by rw [line_eq]; have := of_decide_eq_true g'.2; omega, fun p hp => ?_⟩
    exact q p _ F2 _ (o2.pushH _ hp) (s1.trans s2) upd_same (o2.free hp).1 (o2.free hp).2 (o2.apart hp) (rps_strs _)
  · cases e3
def asStrs : List D → R (List Str)
  | [] => .ok []
  | .str i :: r => asStrs r >>= fun is => .ok (i :: is)
  | _ :: _ => .bad
theorem asStrs_ok : ∀ {ds : List D} {is : List Str}, asStrs ds = .ok is → ds = is.map D.str
  | [], is, h => by cases h; rfl
  | d :: r, is, h => by
    cases d <;> first | (cases h; done) | skip
    obtain ⟨js, h1, h2⟩ := R.of_bind h
    cases h2
    rw [asStrs_ok h1]
    rfl
theorem rps_strs' {K : PySem.W.Frag} {F : Hp} : ∀ {vs : List V} {is : List Str}, Rps K F vs (is.map D.str) → vs = is.map V.str
  | vs, [], h => h.of_nil
  | vs, i :: is, h => by
    obtain ⟨y, ys, rfl, r1, r2⟩ := h.of_cons
    cases rp_str.mp r1
    rw [rps_strs' r2]
    rfl
def dJoin (x : D) (ds : List D) : R D := match x with
  | .str a => asStrs ds >>= fun ys => guardR (decide ((ys.map (·.length)).sum + ys.length * a.length ≤ 16777216)) >>= fun _ => .ok (.str (Txt.join a ys))
  | _ => .bad
def rJoin (K : PySem.W.Frag) : V → List V → Hp → VK → Prop := fun x xs H Q => ∃ a p, ∃ ys : List Str, x = .str a ∧ xs = [.ref p] ∧ (SqL K H p (ys.map V.str) ∨ SqT K H p (ys.map V.str)) ∧
      (ys.map (·.length)).sum + ys.length * a.length ≤ 16777216 ∧ Q (.str (Txt.join a ys)) H
/-- sep.join(a list) -/
theorem pd_join (ho : PD X o to fo) (he : PL X e te fl) (hs : starEach [e] X.env = [(false, eval e X.env)] := by rfl) (hbase : attributeBase o "join" X.env (eval o X.env) = eval o X.env := by rfl) (hline : (apos.endLine == pos.line) = true := by rfl) :
    PD X (.Call (.Attribute o "join" apos) [e] [] pos) (tM1 (rJoin X.K) to te) (fun ρ => fo ρ >>= fun x => fl ρ >>= fun ds => dJoin x ds) := by
  refine ⟨pe_join ho.pe he.pe hs hbase hline, fun W F0 σ ρ F H d Q o e q => ?_⟩
  obtain ⟨x, e1, e'⟩ := R.of_bind e
  obtain ⟨y, e2, e3⟩ := R.of_bind e'
  refine ho.de W F0 σ ρ F H x _ o e1 fun v F1 H1 o1 s1 r1 => ?_
  unfold dJoin at e3
  split at e3
  · obtain ⟨ys, e4, e5⟩ := R.of_bind e3
    obtain ⟨u, g, e6⟩ := R.of_bind e5
    cases e6
    cases asStrs_ok e4
    refine ⟨⟨_, rp_str.mp r1⟩, ?_⟩
    refine he.de W F0 σ ρ F1 H1 _ _ o1 e2 fun p vs F2 H2 o2 s2 hp r2 => ?_
    have e7 := rps_strs' r2
    subst e7
    exact ⟨_, p, ys, rp_str.mp r1, rfl, .inl (SqL.of hp), of_decide_eq_true (of_guard g), q _ F2 H2 o2 (s1.trans s2) (rp_str.mpr rfl)⟩
  · cases e3
end

/-! ### f-strings -/
def dFmt : D → R D
  | .str z => guardR (small z.length) >>= fun _ => .ok (.str z)
  | .int i => guardR (bits i) >>= fun _ => .ok (.str (toString i))
  | _ => .bad
inductive PJD (X : Cx) : List Expr → List TE → List (En → R D) → Prop where
  | nil : PJD X [] [] []
  | cons {e : Expr} {t : TE} {f : En → R D} {es : List Expr} {ts : List TE} {fs : List (En → R D)} (h : PD X e t f) (r : PJD X es ts fs) : PJD X (e :: es) (t :: ts) (f :: fs)
theorem PJD.pj {X : Cx} : ∀ {es : List Expr} {ts : List TE} {fs : List (En → R D)}, PJD X es ts fs → PJ X es ts
  | _, _, _, .nil => .nil
  | _, _, _, .cons h r => .cons h.pe r.pj
def eJs : List (En → R D) → Str → En → R Str
  | [], acc, _ => .ok acc
  | f :: fs, acc, ρ => f ρ >>= fun d => match d with
    | .str y => guardR (small (acc ++ y).length) >>= fun _ => eJs fs (acc ++ y) ρ
    | _ => .bad
section
variable {X : Cx}
theorem pd_fmt {e : Expr} {te : TE} {f : En → R D} {pos : Pos} (h : PD X e te f) : PD X (.FormattedValue e (-1) none pos) (tFmt te) (fun ρ => f ρ >>= dFmt) := by
  refine ⟨pe_fmt h.pe, fun W F0 σ ρ F H d Q o e q => ?_⟩
  obtain ⟨x, e1, e2⟩ := R.of_bind e
  refine h.de W F0 σ ρ F H x _ o e1 fun v F1 H1 o1 s1 r1 => ?_
  unfold dFmt at e2
  split at e2
  · obtain ⟨u, g, e3⟩ := R.of_bind e2
    cases e3
    exact .inl ⟨_, rp_str.mp r1, of_small (of_guard g), q _ F1 H1 o1 s1 (rp_str.mpr rfl)⟩
  · obtain ⟨u, g, e3⟩ := R.of_bind e2
    cases e3
    exact .inr ⟨_, rp_int.mp r1, of_decide_eq_true (of_guard g), q _ F1 H1 o1 s1 (rp_str.mpr rfl)⟩
  · cases e2
theorem de_js {es : List Expr} {ts : List TE} {fs : List (En → R D)} (h : PJD X es ts fs) : ∀ (acc : Str) (W F0 : Hp) (σ : L2.St) (ρ : En) (F H : Hp) (z : Str) (Q : Str → Hp → Prop), Ok X.K W F0 σ ρ F H → eJs fs acc ρ = .ok z →
    (∀ F' H', Ok X.K W F0 σ ρ F' H' → Same F F' → Q z H') → tJs ts acc σ H Q := by
  induction h with
  | nil =>
    intro acc W F0 σ ρ F H z Q o e q
    cases e
    exact q F H o (Same.refl _)
  | @cons e t f es ts fs he r ih =>
    intro acc W F0 σ ρ F H z Q o e q
    obtain ⟨d, e1, e2⟩ := R.of_bind e
    refine he.de W F0 σ ρ F H d _ o e1 fun v F1 H1 o1 s1 r1 => ?_
    split at e2
    · obtain ⟨u, g, e3⟩ := R.of_bind e2
      exact ⟨_, rp_str.mp r1, of_small (of_guard g), ih _ W F0 σ ρ F1 H1 z Q o1 e3 fun F2 H2 o2 s2 => q F2 H2 o2 (s1.trans s2)⟩
    · cases e2
theorem pd_joined {v1 v2 : Expr} {rest : List Expr} {ts : List TE} {fs : List (En → R D)} {pos : Pos} (h : PJD X (v1 :: v2 :: rest) ts fs) :
    PD X (.JoinedStr (v1 :: v2 :: rest) pos) (fun σ H Q => tJs ts Str.empty σ H fun out H1 => Q (.str out) H1) (fun ρ => eJs fs Str.empty ρ >>= fun z => .ok (.str z)) := by
  refine ⟨pe_joined h.pj, fun W F0 σ ρ F H d Q o e q => ?_⟩
  obtain ⟨z, e1, e2⟩ := R.of_bind e
  cases e2
  exact de_js h _ W F0 σ ρ F H z _ o e1 fun F1 H1 o1 s1 => q _ F1 H1 o1 s1 (rp_str.mpr rfl)
end

/-! ### statements -/
inductive Out where
  | nx (ρ : En) | rt (d : D) | bk (ρ : En) | ct (ρ : En)
def Post (K : PySem.W.Frag) (W F0 : Hp) (E : Ends) : Out → Prop
  | .nx ρ => ∀ σ F H, Ok K W F0 σ ρ F H → E.nx σ H
  | .rt d => ∀ v F H, OkB W F0 F H → Rp K F v d → E.rt v H
  | .bk ρ => ∀ σ F H, Ok K W F0 σ ρ F H → E.bk σ H
  | .ct ρ => ∀ σ F H, Ok K W F0 σ ρ F H → E.ct σ H
def DSt (K : PySem.W.Frag) (t : TS) (g : En → R Out) : Prop := ∀ (W F0 : Hp) (σ : L2.St) (ρ : En) (F H : Hp) (E : Ends) (out : Out), Ok K W F0 σ ρ F H → g ρ = .ok out → Post K W F0 E out → t E σ H
structure PSD (X : Cx) (st : Stmt) (t : TS) (g : En → R Out) : Prop where
  pe : PS X st t
  de : DSt X.K t g
structure PSsD (X : Cx) (st : List Stmt) (t : TS) (g : En → R Out) : Prop where
  pe : PSs X st t
  de : DSt X.K t g
def sNext : En → R Out := fun ρ => .ok (.nx ρ)
def sSeq (f g : En → R Out) : En → R Out := fun ρ => f ρ >>= fun o => match o with
  | .nx ρ' => g ρ'
  | o => .ok o
def sRet (f : En → R D) : En → R Out := fun ρ => f ρ >>= fun d => .ok (.rt d)
def sRetN : En → R Out := fun _ => .ok (.rt .non)
def sBreak : En → R Out := fun ρ => .ok (.bk ρ)
def sCont : En → R Out := fun ρ => .ok (.ct ρ)
def sIf (c : En → R Bool) (f g : En → R Out) : En → R Out := fun ρ => c ρ >>= fun b => if b = true then f ρ else g ρ
def sSet (i : Nat) (f : En → R D) : En → R Out := fun ρ => f ρ >>= fun d => .ok (.nx (ρ.set i (.fz d)))
def sSetO (i : Nat) (f : En → R (List D)) : En → R Out := fun ρ => f ρ >>= fun ds => .ok (.nx (ρ.set i (.ow ds)))
def sBad : En → R Out := fun _ => .bad
def sFrz (i : Nat) (g : En → R Out) : En → R Out := fun ρ => g (frz i ρ)
section
variable {X : Cx} {pos : Pos} {st : Stmt} {rest : List Stmt} {t u : TS} {f g : En → R Out} {e : Expr} {te : TE} {fe : En → R D} {fl : En → R (List D)}
theorem pssd_nil : PSsD X [] tNext sNext := ⟨pss_nil, fun W F0 σ ρ F H E out o e q => by cases e; exact q σ F H o⟩
theorem pssd_one (h : PSD X st t g) : PSsD X [st] t g := ⟨pss_one h.pe, h.de⟩
theorem pssd_cons (h1 : PSD X st t f) (h2 : PSsD X rest u g) : PSsD X (st :: rest) (tSeq t u) (sSeq f g) := by
  refine ⟨pss_cons h1.pe h2.pe, fun W F0 σ ρ F H E out o e q => ?_⟩
  obtain ⟨o1, e1, e2⟩ := R.of_bind e
  refine h1.de W F0 σ ρ F H { E with nx := u E } o1 o e1 ?_
  cases o1 with
  | nx ρ' => exact fun σ' F' H' o' => h2.de W F0 σ' ρ' F' H' E out o' e2 q
  | rt d => cases e2; exact q
  | bk ρ' => cases e2; exact q
  | ct ρ' => cases e2; exact q
theorem psd_pass : PSD X (.Pass pos) tNext sNext := ⟨ps_pass, fun W F0 σ ρ F H E out o e q => by cases e; exact q σ F H o⟩
theorem psd_break : PSD X (.Break pos) tBreak sBreak := ⟨ps_break, fun W F0 σ ρ F H E out o e q => by cases e; exact q σ F H o⟩
theorem psd_continue : PSD X (.Continue pos) tCont sCont := ⟨ps_continue, fun W F0 σ ρ F H E out o e q => by cases e; exact q σ F H o⟩
theorem psd_never : PSD X st tNever sBad := ⟨ps_never, fun W F0 σ ρ F H E out o e q => by cases e⟩
theorem psd_ret (h : PD X e te fe) : PSD X (.Return (some e) pos) (tRet te) (sRet fe) := by
  refine ⟨ps_ret h.pe, fun W F0 σ ρ F H E out o e q => ?_⟩
  obtain ⟨d, e1, e2⟩ := R.of_bind e
  cases e2
  exact h.de W F0 σ ρ F H d _ o e1 fun v F' H' o' s r => q v F' H' o'.toOkB r
theorem psd_retN : PSD X (.Return none pos) tRetN sRetN := ⟨ps_retN, fun W F0 σ ρ F H E out o e q => by cases e; exact q _ F H o.toOkB (rp_non.mpr rfl)⟩
theorem psd_if {c : Expr} {a b : List Stmt} {tc : TT} {fc : En → R Bool} (hc : PTD X c tc fc) (ha : PSsD X a t f) (hb : PSsD X b u g) : PSD X (.If c a b pos) (tIfS tc t u) (sIf fc f g) := by
  refine ⟨ps_if hc.pe ha.pe hb.pe, fun W F0 σ ρ F H E out o e q => ?_⟩
  obtain ⟨k, e1, e2⟩ := R.of_bind e
  refine hc.de W F0 σ ρ F H k _ o e1 fun F1 H1 o1 s1 => ?_
  cases k with
  | true => exact iteT (ha.de W F0 σ ρ F1 H1 E out o1 (by simpa using e2) q)
  | false => exact iteF (hb.de W F0 σ ρ F1 H1 E out o1 (by simpa using e2) q)
theorem psd_set {i : Nat} {x : Str} {pos' : Pos} (hN : X.N.Nodup) (h : PD X e te fe) (hi : X.N[i]? = some x := by rfl) (hx : Loc X.env.scope x := by first | exact Or.inl rfl | exact Or.inr rfl) (hs : swapsWith e (some (.Name x pos')) pos.line X.env = pure false := by rfl) (hf : X.fn x = true ∨ X.env.scope.names.lookup x = some .local := by first | exact .inl rfl | exact .inr rfl | assumption) :
    PSD X (.Assign [.Name x pos'] e pos) (tAsg te (gName i)) (sSet i fe) := by
  refine ⟨ps_set hN hi hx h.pe hs hf, fun W F0 σ ρ F H E out o e q => ?_⟩
  obtain ⟨d, e1, e2⟩ := R.of_bind e
  cases e2
  exact h.de W F0 σ ρ F H d _ o e1 fun v F' H' o' s r => q _ F' H' (o'.setF i r)
theorem psd_setO {i : Nat} {x : Str} {pos' : Pos} (hN : X.N.Nodup) (h : PF X e te fl) (hi : X.N[i]? = some x := by rfl) (hx : Loc X.env.scope x := by first | exact Or.inl rfl | exact Or.inr rfl) (hs : swapsWith e (some (.Name x pos')) pos.line X.env = pure false := by rfl) (hf : X.fn x = true ∨ X.env.scope.names.lookup x = some .local := by first | exact .inl rfl | exact .inr rfl | assumption) :
    PSD X (.Assign [.Name x pos'] e pos) (tAsg te (gName i)) (sSetO i fl) := by
  refine ⟨ps_set hN hi hx h.pe hs hf, fun W F0 σ ρ F H E out o e q => ?_⟩
  obtain ⟨d, e1, e2⟩ := R.of_bind e
  cases e2
  exact h.de W F0 σ ρ F H d _ o e1 fun p vs F' H' o' s hp hf hw ap r => q _ F' H' (o'.setO i hp hf hw ap r)
theorem ds_setO {K : PySem.W.Frag} {i : Nat} (h : DF K te fl) : DSt K (tAsg te (gName i)) (sSetO i fl) := fun W F0 σ ρ F H E out o e q => by
  obtain ⟨d, e1, e2⟩ := R.of_bind e
  cases e2
  exact h W F0 σ ρ F H d _ o e1 fun p vs F' H' o' s hp hf hw ap r => q _ F' H' (o'.setO i hp hf hw ap r)
theorem ds_setL {K : PySem.W.Frag} {i : Nat} (h : DF K te fl) : DSt K (tAsg te (gName i)) (sSet i (toLst fl)) := fun W F0 σ ρ F H E out o e q => by
  obtain ⟨d, e1, e2⟩ := R.of_bind e
  cases e2
  obtain ⟨ds, e3, e4⟩ := R.of_bind e1
  cases e4
  refine h W F0 σ ρ F H ds _ o e3 fun p vs F' H' o' s hp hf hw ap r => ?_
  have s' : Same F' (upd F' p (.lst vs)) := same_upd hf
  exact q _ _ _ ((o'.freezeAt hp hf hw ap).setF i (rp_lst.mpr ⟨p, vs, rfl, upd_same, r.mono s'⟩))
/-- y = [..] on its own line -/
theorem psd_setLcW {i : Nat} {y : Str} {py : Pos} {elt tg iter : Expr} {ifs : List Expr} {scope : Scope} {own : List (Str × Nat)} {pos spos : Pos} {wi : TI} {g : Shared → Hp → Addr → List (Str × Addr) → List Addr → TG} {ix : List Nat} {tt : Shared → Hp → Addr → List (Str × Addr) → List Addr → TT} {te : Shared → Hp → Addr → List (Str × Addr) → List Addr → TE} {src : En → R (List D)} {tgf : D → En → R En} {test : En → R Bool} {ef : En → R D} {so : En → R Out}
    (hds : DSt X.K (tAsg (tLc wi (g X.s_0 X.H_0 0 [] []) (tt X.s_0 X.H_0 0 [] []) (te X.s_0 X.H_0 0 [] []) (own.map (·.2))) (gName i)) so)
    (hc : X.calm = true) (hN : X.N.Nodup) (hy : X.N[i]? = some y) (hyl : X.env.scope.names.lookup y = some .local) (hsw : swapsWith (.ListComp elt [⟨tg, iter, ifs, 0⟩] scope pos) (some (.Name y py)) spos.line X.env = pure true)
    (hi : PID X tg iter wi src) (ok : BlkOk X.N X.env.scope scope own)
    (hg : ∀ (s : Shared) (H : Hp) (C : Addr) (cl : List (Str × Addr)) (fp : List Addr), PGD (X.blk s H scope (compEnvC scope cl C X.env) fp) tg (g s H C cl fp) ix tgf) (ht : ∀ (s : Shared) (H : Hp) (C : Addr) (cl : List (Str × Addr)) (fp : List Addr), PTsD (X.blk s H scope (compEnvC scope cl C X.env) fp) ifs (tt s H C cl fp) test)
    (he : ∀ (s : Shared) (H : Hp) (C : Addr) (cl : List (Str × Addr)) (fp : List Addr), PD (X.blk s H scope (compEnvC scope cl C X.env) fp) elt (te s H C cl fp) ef) (hge : ∀ s H C cl fp, g s H C cl fp = g X.s_0 X.H_0 0 [] [] := by intros; rfl) (hte : ∀ s H C cl fp, tt s H C cl fp = tt X.s_0 X.H_0 0 [] [] := by intros; rfl) (hee : ∀ s H C cl fp, te s H C cl fp = te X.s_0 X.H_0 0 [] [] := by intros; rfl) (hs : ∀ x, foldedSetIterable iter X.env x = pure x := by intro _; rfl) :
    PSD X (.Assign [.Name y py] (.ListComp elt [⟨tg, iter, ifs, 0⟩] scope pos) spos) (tAsg (tLc wi (g X.s_0 X.H_0 0 [] []) (tt X.s_0 X.H_0 0 [] []) (te X.s_0 X.H_0 0 [] []) (own.map (·.2))) (gName i)) so :=
  ⟨ps_setLc hc hN hy hyl hsw hi.pe ok (fun s H C cl fp => hge s H C cl fp ▸ (hg s H C cl fp).pe) (fun s H C cl fp => hte s H C cl fp ▸ (ht s H C cl fp).pe) (fun s H C cl fp => hee s H C cl fp ▸ (he s H C cl fp).pe) hs, hds⟩
theorem psd_setLcO {i : Nat} {y : Str} {py : Pos} {elt tg iter : Expr} {ifs : List Expr} {scope : Scope} {own : List (Str × Nat)} {pos spos : Pos} {wi : TI} {g : Shared → Hp → Addr → List (Str × Addr) → List Addr → TG} {ix : List Nat} {tt : Shared → Hp → Addr → List (Str × Addr) → List Addr → TT} {te : Shared → Hp → Addr → List (Str × Addr) → List Addr → TE} {src : En → R (List D)} {tgf : D → En → R En} {test : En → R Bool} {ef : En → R D}
    (hc : X.calm = true) (hN : X.N.Nodup) (hsw : swapsWith (.ListComp elt [⟨tg, iter, ifs, 0⟩] scope pos) (some (.Name y py)) spos.line X.env = pure true)
    (hi : PID X tg iter wi src) (ok : BlkOk X.N X.env.scope scope own)
    (hg : ∀ (s : Shared) (H : Hp) (C : Addr) (cl : List (Str × Addr)) (fp : List Addr), PGD (X.blk s H scope (compEnvC scope cl C X.env) fp) tg (g s H C cl fp) ix tgf) (ht : ∀ (s : Shared) (H : Hp) (C : Addr) (cl : List (Str × Addr)) (fp : List Addr), PTsD (X.blk s H scope (compEnvC scope cl C X.env) fp) ifs (tt s H C cl fp) test)
    (he : ∀ (s : Shared) (H : Hp) (C : Addr) (cl : List (Str × Addr)) (fp : List Addr), PD (X.blk s H scope (compEnvC scope cl C X.env) fp) elt (te s H C cl fp) ef) (hy : X.N[i]? = some y := by rfl) (hyl : X.env.scope.names.lookup y = some .local := by rfl) (hix : ∀ i ∈ ix, i ∈ own.map (·.2) := by decide) (hge : ∀ s H C cl fp, g s H C cl fp = g X.s_0 X.H_0 0 [] [] := by intros; rfl) (hte : ∀ s H C cl fp, tt s H C cl fp = tt X.s_0 X.H_0 0 [] [] := by intros; rfl) (hee : ∀ s H C cl fp, te s H C cl fp = te X.s_0 X.H_0 0 [] [] := by intros; rfl) (hs : ∀ x, foldedSetIterable iter X.env x = pure x := by intro _; rfl) :
    PSD X (.Assign [.Name y py] (.ListComp elt [⟨tg, iter, ifs, 0⟩] scope pos) spos) (tAsg (tLc wi (g X.s_0 X.H_0 0 [] []) (tt X.s_0 X.H_0 0 [] []) (te X.s_0 X.H_0 0 [] []) (own.map (·.2))) (gName i)) (sSetO i (eComp src (own.map (·.2)) tgf test ef)) :=
  psd_setLcW (ds_setO (df_lc hi.de (hg X.s_0 X.H_0 0 [] []).de (ht X.s_0 X.H_0 0 [] []).de (he X.s_0 X.H_0 0 [] []).de hix)) hc hN hy hyl hsw hi ok hg ht he hge hte hee hs
theorem psd_setLc {i : Nat} {y : Str} {py : Pos} {elt tg iter : Expr} {ifs : List Expr} {scope : Scope} {own : List (Str × Nat)} {pos spos : Pos} {wi : TI} {g : Shared → Hp → Addr → List (Str × Addr) → List Addr → TG} {ix : List Nat} {tt : Shared → Hp → Addr → List (Str × Addr) → List Addr → TT} {te : Shared → Hp → Addr → List (Str × Addr) → List Addr → TE} {src : En → R (List D)} {tgf : D → En → R En} {test : En → R Bool} {ef : En → R D}
    (hc : X.calm = true) (hN : X.N.Nodup) (hsw : swapsWith (.ListComp elt [⟨tg, iter, ifs, 0⟩] scope pos) (some (.Name y py)) spos.line X.env = pure true)
    (hi : PID X tg iter wi src) (ok : BlkOk X.N X.env.scope scope own)
    (hg : ∀ (s : Shared) (H : Hp) (C : Addr) (cl : List (Str × Addr)) (fp : List Addr), PGD (X.blk s H scope (compEnvC scope cl C X.env) fp) tg (g s H C cl fp) ix tgf) (ht : ∀ (s : Shared) (H : Hp) (C : Addr) (cl : List (Str × Addr)) (fp : List Addr), PTsD (X.blk s H scope (compEnvC scope cl C X.env) fp) ifs (tt s H C cl fp) test)
    (he : ∀ (s : Shared) (H : Hp) (C : Addr) (cl : List (Str × Addr)) (fp : List Addr), PD (X.blk s H scope (compEnvC scope cl C X.env) fp) elt (te s H C cl fp) ef) (hy : X.N[i]? = some y := by rfl) (hyl : X.env.scope.names.lookup y = some .local := by rfl) (hix : ∀ i ∈ ix, i ∈ own.map (·.2) := by decide) (hge : ∀ s H C cl fp, g s H C cl fp = g X.s_0 X.H_0 0 [] [] := by intros; rfl) (hte : ∀ s H C cl fp, tt s H C cl fp = tt X.s_0 X.H_0 0 [] [] := by intros; rfl) (hee : ∀ s H C cl fp, te s H C cl fp = te X.s_0 X.H_0 0 [] [] := by intros; rfl) (hs : ∀ x, foldedSetIterable iter X.env x = pure x := by intro _; rfl) :
    PSD X (.Assign [.Name y py] (.ListComp elt [⟨tg, iter, ifs, 0⟩] scope pos) spos) (tAsg (tLc wi (g X.s_0 X.H_0 0 [] []) (tt X.s_0 X.H_0 0 [] []) (te X.s_0 X.H_0 0 [] []) (own.map (·.2))) (gName i)) (sSet i (toLst (eComp src (own.map (·.2)) tgf test ef))) :=
  psd_setLcW (ds_setL (df_lc hi.de (hg X.s_0 X.H_0 0 [] []).de (ht X.s_0 X.H_0 0 [] []).de (he X.s_0 X.H_0 0 [] []).de hix)) hc hN hy hyl hsw hi ok hg ht he hge hte hee hs
theorem psd_frz (i : Nat) (h : PSD X st t g) : PSD X st t (sFrz i g) := by
  refine ⟨h.pe, fun W F0 σ ρ F H E out o e q => ?_⟩
  obtain ⟨F', s, o'⟩ := o.freeze i
  exact h.de W F0 σ _ F' H E out o' e q
/-- an expression alone -/
def sDrop (f : En → R D) : En → R Out := fun ρ => f ρ >>= fun _ => .ok (.nx ρ)
theorem psd_expr (h : PD X e te fe) (hs : swapsWith e none pos.line X.env = pure false := by rfl) : PSD X (.Expr e pos) (tDrop te) (sDrop fe) := by
  refine ⟨ps_expr h.pe hs, fun W F0 σ ρ F H E out o e q => ?_⟩
  obtain ⟨d, e1, e2⟩ := R.of_bind e
  cases e2
  exact h.de W F0 σ ρ F H d _ o e1 fun v F' H' o' s r => q _ F' H' o'
/-! an owned list is changed -/
def sApp (i : Nat) (f : En → R D) : En → R Out := fun ρ => eOwn i ρ >>= fun ds => f ρ >>= fun d => guardR (decide (ds.length < 16777216)) >>= fun _ => .ok (.nx (ρ.set i (.ow (ds ++ [d]))))
def sIns (i : Nat) (k f : En → R D) : En → R Out := fun ρ => eOwn i ρ >>= fun ds => k ρ >>= fun j => f ρ >>= fun d => match j with
  | .int j => guardR (decide (ds.length < 16777216) && decide (0 ≤ j) && decide (j < 2 ^ 63)) >>= fun _ => .ok (.nx (ρ.set i (.ow (ds.take j.toNat ++ [d] ++ ds.drop j.toNat))))
  | _ => .bad
def sPut (i : Nat) (k f : En → R D) : En → R Out := fun ρ => f ρ >>= fun d => eOwn i ρ >>= fun ds => k ρ >>= fun j => match j with
  | .int j => match ixN ds.length j with
    | some n => .ok (.nx (ρ.set i (.ow (ds.set n d))))
    | none => .bad
  | _ => .bad
theorem own_at {K : PySem.W.Frag} {W F0 F H : Hp} {σ : L2.St} {ρ : En} {i : Nat} {ds : List D} (o : Ok K W F0 σ ρ F H) (h : eOwn i ρ = .ok ds) : ∃ p vs, ρ[i]? = some (.ow ds) ∧ σ[i]? = some (some (.ref p)) ∧ H p = some (.lst vs) ∧ Rps K F vs ds := by
  unfold eOwn at h
  split at h
  · rename_i ds' hd
    cases h
    obtain ⟨x, h1, p, vs, e, hp, hf, hw, r⟩ := slot_at o hd
    exact ⟨p, vs, hd, by rw [h1, e], hp, r⟩
  · cases h
theorem own_on {K : PySem.W.Frag} {W F0 F H : Hp} {σ : L2.St} {ρ : En} {i : Nat} {ds : List D} {p : Addr} (o : Ok K W F0 σ ρ F H) (h : ρ[i]? = some (.ow ds)) (hs : σ[i]? = some (some (.ref p))) : ∃ vs, H p = some (.lst vs) ∧ Rps K F vs ds := by
  obtain ⟨p', vs, e, hp, hf, hw, r⟩ := o.slots i _ _ hs h
  cases e
  exact ⟨vs, hp, r⟩
theorem psd_append (i : Nat) {x : Str} {px apos cpos : Pos} (he : PD X e te fe) (hN : X.N[i]? = some x := by rfl) (hv : Vis X.env.scope x := by first | exact Or.inl rfl | exact Or.inr (Or.inl rfl) | exact Or.inr (Or.inr rfl))
    (hd : (x == ("__debug__" : Str)) = false := by decide) (hcd : (x == ("__classdict__" : Str)) = false := by decide)
    (hbase : attributeBase (.Name x px) "append" X.env (eval (.Name x px) X.env) = eval (.Name x px) X.env := by rfl)
    (hfew : ((backTo cpos (starEach [e] X.env)).all (fun x => !x.1) && (backToKw cpos (keywordEach [] X.env)).all (fun x => x.1.isSome)
      && decide (([e] : List Expr).length + ([] : List Keyword).length + (if ([] : List Keyword).isEmpty then 0 else 1) < 30)) = true := by rfl)
    (hline : (apos.endLine == cpos.line) = true := by rfl) (hst : starEach [e] X.env = (false, eval e X.env) :: starEach [] X.env := by rfl) (hplain : (backTo cpos (starEach [] X.env)).any (·.1) = false := by rfl)
    (hs : swapsWith (.Call (.Attribute (.Name x px) "append" apos) [e] [] cpos) none pos.line X.env = pure false := by rfl) :
    PSD X (.Expr (.Call (.Attribute (.Name x px) "append" apos) [e] [] cpos) pos) (tDrop (tBM X.K "list" rAppend (tVar i) (tCons te tNil))) (sApp i fe) := by
  refine ⟨ps_expr (pe_bm PySem.F.plainAttrs_list PySem.F.slot_list_append PySem.F.type_list_append mt_append (pe_var hN hv hd hcd) (pa_cons he.pe pa_nil hst) hbase hfew hline hst hplain) hs, fun W F0 σ ρ F H E out o e q => ?_⟩
  obtain ⟨ds, e1, e'⟩ := R.of_bind e
  obtain ⟨d, e2, e''⟩ := R.of_bind e'
  obtain ⟨u, g, e3⟩ := R.of_bind e''
  cases e3
  obtain ⟨p, vs, h1, h2, h3, r⟩ := own_at o e1
  refine ⟨.ref p, h2, .inl ⟨rfl, vs, SqL.of h3⟩, ?_⟩
  refine he.de W F0 σ ρ F H d _ o e2 fun v F1 H1 o1 s1 r1 => ?_
  obtain ⟨vs1, h4, r2⟩ := own_on o1 h1 h2
  refine ⟨p, vs1, v, rfl, rfl, h4, by rw [line_eq, r2.length]; exact of_decide_eq_true (of_guard g), ?_⟩
  exact q σ F1 _ (o1.setAt h1 h2 (r2.append (Rps.one r1)))
theorem psd_insert (i : Nat) {x : Str} {px apos cpos : Pos} {k : Expr} {tk : TE} {fk : En → R D} (hk : PD X k tk fk) (he : PD X e te fe) (hN : X.N[i]? = some x := by rfl) (hv : Vis X.env.scope x := by first | exact Or.inl rfl | exact Or.inr (Or.inl rfl) | exact Or.inr (Or.inr rfl))
    (hd : (x == ("__debug__" : Str)) = false := by decide) (hcd : (x == ("__classdict__" : Str)) = false := by decide)
    (hbase : attributeBase (.Name x px) "insert" X.env (eval (.Name x px) X.env) = eval (.Name x px) X.env := by rfl)
    (hfew : ((backTo cpos (starEach [k, e] X.env)).all (fun x => !x.1) && (backToKw cpos (keywordEach [] X.env)).all (fun x => x.1.isSome)
      && decide (([k, e] : List Expr).length + ([] : List Keyword).length + (if ([] : List Keyword).isEmpty then 0 else 1) < 30)) = true := by rfl)
    (hline : (apos.endLine == cpos.line) = true := by rfl) (hst : starEach [k, e] X.env = (false, eval k X.env) :: starEach [e] X.env := by rfl) (hst2 : starEach [e] X.env = (false, eval e X.env) :: starEach [] X.env := by rfl) (hplain : (backTo cpos (starEach [e] X.env)).any (·.1) = false := by rfl)
    (hs : swapsWith (.Call (.Attribute (.Name x px) "insert" apos) [k, e] [] cpos) none pos.line X.env = pure false := by rfl) :
    PSD X (.Expr (.Call (.Attribute (.Name x px) "insert" apos) [k, e] [] cpos) pos) (tDrop (tBM X.K "list" (fun x vs H Q => ∃ (l : Addr) (xs : List V) (i : Int) (y : V), x = .ref l ∧ vs = [.int i, y] ∧ H l = some (.lst xs) ∧ xs.length < sizeLine ∧ 0 ≤ i ∧ i < 2 ^ 63 ∧
      Q .non (upd H l (.lst (xs.take i.toNat ++ [y] ++ xs.drop i.toNat)))) (tVar i) (tCons tk (tCons te tNil)))) (sIns i fk fe) := by
  refine ⟨ps_expr (pe_bm PySem.F.plainAttrs_list PySem.F.slot_list_insert PySem.F.type_list_insert mt_insert (pe_var hN hv hd hcd) (pa_cons hk.pe (pa_cons he.pe pa_nil hst2) hst) hbase hfew hline hst hplain) hs, fun W F0 σ ρ F H E out o e q => ?_⟩
  obtain ⟨ds, e1, e'⟩ := R.of_bind e
  obtain ⟨j, e2, e''⟩ := R.of_bind e'
  obtain ⟨d, e3, e4⟩ := R.of_bind e''
  obtain ⟨p, vs, h1, h2, h3, r⟩ := own_at o e1
  refine ⟨.ref p, h2, .inl ⟨rfl, vs, SqL.of h3⟩, ?_⟩
  refine hk.de W F0 σ ρ F H j _ o e2 fun w F1 H1 o1 s1 r1 => ?_
  refine he.de W F0 σ ρ F1 H1 d _ o1 e3 fun v F2 H2 o2 s2 r2 => ?_
  obtain ⟨vs1, h4, r3⟩ := own_on o2 h1 h2
  split at e4
  · obtain ⟨u, g, e5⟩ := R.of_bind e4
    cases e5
    have g' := of_guard g
    rw [Bool.and_eq_true, Bool.and_eq_true] at g'
    refine ⟨p, vs1, _, v, rfl, by rw [rp_int.mp r1], h4, by rw [line_eq, r3.length]; exact of_decide_eq_true g'.1.1, of_decide_eq_true g'.1.2, of_decide_eq_true g'.2, ?_⟩
    exact q σ F2 _ (o2.setAt h1 h2 (((r3.take _).append (Rps.one r2)).append (r3.drop _)))
  · cases e4
theorem psd_put (i : Nat) {x : Str} {px ipos : Pos} {k : Expr} {tk : TE} {fk : En → R D} (hk : PD X k tk fk) (he : PD X e te fe) (hN : X.N[i]? = some x := by rfl) (hv : Vis X.env.scope x := by first | exact Or.inl rfl | exact Or.inr (Or.inl rfl) | exact Or.inr (Or.inr rfl))
    (hd : (x == ("__debug__" : Str)) = false := by decide) (hcd : (x == ("__classdict__" : Str)) = false := by decide)
    (ha : ∀ v, assign (.Subscript (.Name x px) k ipos) X.env v = (do
      let ov ← holding [v] (eval (.Name x px) X.env)
      let iv ← holding [v, ov] (eval k X.env)
      standAt ipos
      holding [v, ov, iv] (setItem ov iv v)
      release [v, ov, iv] []) := by intro _; rfl)
    (hs : swapsWithSole [.Subscript (.Name x px) k ipos] e pos.line X.env = pure false := by rfl) (hw : swappedStores [.Subscript (.Name x px) k ipos] e X.env = pure none := by rfl)
    (h1 : (assignEach [.Subscript (.Name x px) k ipos] X.env).map (·.2) = [assign (.Subscript (.Name x px) k ipos) X.env] := by rfl) :
    PSD X (.Assign [.Subscript (.Name x px) k ipos] e pos) (tAsg te (gSub (tVar i) tk rSetL)) (sPut i fk fe) := by
  refine ⟨ps_asg he.pe (pg_sub (pe_var hN hv hd hcd) hk.pe set_list ha) hs hw h1, fun W F0 σ ρ F H E out o e q => ?_⟩
  obtain ⟨d, e1, e'⟩ := R.of_bind e
  obtain ⟨ds, e2, e''⟩ := R.of_bind e'
  obtain ⟨j, e3, e4⟩ := R.of_bind e''
  refine he.de W F0 σ ρ F H d _ o e1 fun v F1 H1 o1 s1 r1 => ?_
  obtain ⟨p, vs, h1, h2, h3, r⟩ := own_at o1 e2
  refine ⟨.ref p, h2, ?_⟩
  refine hk.de W F0 σ ρ F1 H1 j _ o1 e3 fun w F2 H2 o2 s2 r2 => ?_
  obtain ⟨vs1, h4, r3⟩ := own_on o2 h1 h2
  split at e4
  · split at e4
    · rename_i n hn
      cases e4
      refine ⟨p, vs1, _, n, rfl, rp_int.mp r2, h4, by rw [r3.length]; exact hn, ?_⟩
      exact q σ F2 _ (o2.setAt h1 h2 (r3.set n (r1.mono s2)))
    · cases e4
  · cases e4
/-! for -/
def forR (tg : D → En → R En) (body : En → R Out) : List D → En → R Out
  | [], ρ => .ok (.nx ρ)
  | d :: ds, ρ => tg d ρ >>= fun ρ1 => body ρ1 >>= fun o => match o with
    | .nx ρ2 => forR tg body ds ρ2
    | .ct ρ2 => forR tg body ds ρ2
    | .bk ρ2 => .ok (.nx ρ2)
    | .rt d => .ok (.rt d)
def sFor (src : En → R (List D)) (tg : D → En → R En) (body : En → R Out) : En → R Out := fun ρ => src ρ >>= fun ds => forR tg body ds ρ
theorem psd_for {tg iter : Expr} {body : List Stmt} {wi : TI} {gt : TG} {ix : List Nat} {tgf : D → En → R En} {src : En → R (List D)} {tb : TS} {bf : En → R Out} (hp : PassesOwn (model X.prog X.w) X.A X.env X.xe) (hc : X.calm = true)
    (hi : PID X tg iter wi src) (hg : PGD X tg gt ix tgf) (hb : PSsD X body tb bf) (hs : ∀ x, foldedSetIterable iter X.env x = pure x := by intro _; rfl) : PSD X (.For tg iter body [] pos) (tFor wi gt tb) (sFor src tgf bf) := by
  refine ⟨ps_for hp hc hi.pe hg.pe hb.pe hs, fun W F0 σ ρ F H E out o e q => ?_⟩
  obtain ⟨ds, e1, e2⟩ := R.of_bind e
  refine hi.de W F0 σ ρ F H ds _ o e1 fun J F1 H1 o1 s1 wk => ?_
  refine ⟨fun i m σ' H' => m = ds.length - i ∧ i ≤ ds.length ∧ ∃ ρ' F', Ok X.K W F1 σ' ρ' F' H' ∧ forR tgf bf (ds.drop i) ρ' = .ok out, ⟨ds.length, rfl, Nat.zero_le _, ρ, F1, o1.self, e2⟩, ?_⟩
  rintro i m σ' H' ⟨rfl, hil, ρ', F', o2, e3⟩
  have wk' := wk F' H' o2.ext o2.sub i
  by_cases hlt : i < ds.length
  · have hx : ds[i]? = some ds[i] := List.getElem?_eq_getElem hlt
    rw [take_succ hx] at e3
    obtain ⟨ρ1, e4, e5⟩ := R.of_bind e3
    obtain ⟨o3, e6, e7⟩ := R.of_bind e5
    obtain ⟨hgo, hy⟩ := wk'.2 _ hx
    refine .inr ⟨hgo, fun σ2 H2 => ∃ ρ2 F2, Ok X.K W F1 σ2 ρ2 F2 H2 ∧ forR tgf bf (ds.drop (i + 1)) ρ2 = .ok out, fun σ2 H2 n => ⟨ds.length - (i + 1), by omega, rfl, by omega, n⟩, fun x H3 yl => ?_⟩
    have item : ∃ F3, Ok X.K W F1 σ' ρ' F3 H3 ∧ Rp X.K F3 x ds[i] := by
      rcases hy x H3 yl with ⟨e8, r8⟩ | ⟨p, u', hp, e8, r8⟩
      · subst e8; exact ⟨F', o2, r8⟩
      · subst e8; exact ⟨_, o2.push u' hp, r8⟩
    obtain ⟨F3, o4, r4⟩ := item
    refine hg.de W F1 σ' ρ' ρ1 F3 H3 x _ _ o4 r4 e4 fun σ1 o5 _ _ => ?_
    refine hb.de W F1 σ1 ρ1 F3 H3 _ o3 o5 e6 ?_
    cases o3 with
    | nx ρ2 => exact fun σ2 F2 H2 o6 => ⟨ρ2, F2, o6, e7⟩
    | ct ρ2 => exact fun σ2 F2 H2 o6 => ⟨ρ2, F2, o6, e7⟩
    | bk ρ2 =>
      cases e7
      exact fun σ2 F2 H2 o6 => q σ2 F2 H2 (o6.rebase o1.toOkB)
    | rt d =>
      cases e7
      exact fun v F2 H2 o6 r => q v F2 H2 (o6.rebase o1.toOkB) r
  · have ei : i = ds.length := by omega
    subst ei
    rw [List.drop_length] at e3
    cases e3
    exact .inl ⟨wk'.1 rfl, q σ' F' H' (o2.rebase o1.toOkB)⟩
end

/-! ### a def -/
def runD (n k : Nat) (body : En → R Out) : List D → R D := fun ds => guardR (ds.length == n) >>= fun _ => body (ds.map Sl.fz ++ List.replicate k .un) >>= fun o => match o with
  | .rt d => .ok d
  | .nx _ => .ok .non
  | _ => .bad
/-- a def's promise: a plain function from data to data; what was stays -/
def spD (K : PySem.W.Frag) (m : List D → R D) : Sp := fun vs H Q _ => ∃ (F : Hp) (ds : List D) (d : D), Same F H ∧ Rps K F vs ds ∧ m ds = .ok d ∧
  ∀ v F' H', Same F F' → Same F' H' → Same H H' → (∀ b o, H b = some o → F b = none → F' b = none) → Rp K F' v d → Q v H'
section
variable {P : Program} {w : World} {K : PySem.W.Frag} {mg : Str → Option Value} {base : Heap}
theorem ok_start {N : List Str} {vs : List V} {ds : List D} {F H : Hp} {k : Nat} (s : Same F H) (r : Rps K F vs ds) (hk : N.length - ds.length = k) : Ok K H F (L2.start N vs) (ds.map Sl.fz ++ List.replicate k .un) F H := by
  have hl := r.length
  refine ⟨⟨s, Same.refl _, Same.refl _, fun b o e1 e2 => e2⟩, by simp [L2.start, hl, hk], fun i o sl h1 h2 => ?_, fun i j p es es' h1 h2 h3 h4 => ?_⟩
  · by_cases hi : i < ds.length
    · rw [List.getElem?_append_left (by simpa using hi), List.getElem?_map] at h2
      unfold L2.start at h1
      rw [List.getElem?_append_left (by simp [hl]; exact hi), List.getElem?_map] at h1
      have hd : ds[i]? = some ds[i] := List.getElem?_eq_getElem hi
      rw [hd] at h2
      cases h2
      obtain ⟨v, hv, rv⟩ := r.get hd
      rw [hv] at h1
      cases h1
      exact ⟨v, rfl, rv⟩
    · rw [List.getElem?_append_right (by simp; omega), List.getElem?_replicate] at h2
      split at h2
      · cases h2; trivial
      · cases h2
  · exfalso
    by_cases hi : i < ds.length
    · rw [List.getElem?_append_left (by simpa using hi), List.getElem?_map, List.getElem?_eq_getElem hi] at h1
      cases h1
    · rw [List.getElem?_append_right (by simp; omega), List.getElem?_replicate] at h1
      split at h1 <;> cases h1
theorem Fun.okD {x qual : Str} {st : Stmt} {f : Addr} {fd : FuncData} {N ps : List Str} {k : Nat} {g : En → R Out} (F : L2.Fun K x qual st f fd) (S : FnScope N ps (defScope st))
    (hbody : ∀ (cdv : Value) (A : Around) (outer : List Env) (s : Shared) (H : Hp) (E : XK), Room k (A.deeper (envOfC qual (defScope st) s.heap.objs.size f cdv)) →
      ∃ t, PSsD (cxOf CX0 P w K mg base N qual (defScope st) f cdv A outer s H E).nox (defBody st) t g) : FnOk P w K mg base CX0 (k + 1) f fd ps (spD K (runD ps.length (N.length - ps.length) g)) := by
  refine F.ok S (fun vs H Q E h => ?_) (fun cdv A outer s H vs Q E hr h => ?_)
  · obtain ⟨F', ds, d, sF, r, e, _⟩ := h
    obtain ⟨u, g', _⟩ := R.of_bind e
    rw [r.length]
    exact beq_iff_eq.mp (of_guard g')
  · obtain ⟨F1, ds, d, sF, r, e, q⟩ := h
    obtain ⟨u, g', e1⟩ := R.of_bind e
    obtain ⟨out, e2, e3⟩ := R.of_bind e1
    have hl : ds.length = ps.length := beq_iff_eq.mp (of_guard g')
    obtain ⟨t, ht⟩ := hbody cdv A outer s H E hr
    refine ⟨t, ht.pe, ?_⟩
    have o := ok_start (N := N) (k := N.length - ps.length) sF r (by rw [hl])
    refine ht.de H F1 _ _ F1 H _ out o e2 ?_
    have fin : ∀ {v : V} {F' H' : Hp} {d' : D}, OkB H F1 F' H' → Rp K F' v d' → d' = d → Q v H' := fun {v F' H' d'} o' r' e' => by
      subst e'
      exact q v F' H' o'.ext o'.sub o'.wld (fun b o e1 e2 => o'.new b o e1 e2) r'
    cases out with
    | rt d' => cases e3; exact fun v F' H' o' r' => fin o' r' rfl
    | nx ρ' => cases e3; exact fun σ' F' H' o' => fin (d' := .non) o'.toOkB (rp_non.mpr rfl) rfl
    | bk ρ' => cases e3
    | ct ρ' => cases e3
end
section
variable {X : Cx} {k : Nat} {f : Addr} {fd : FuncData} {ps : List Str} {m : List D → R D} {x : Str} {p pos : Pos} {e : Expr} {es : List Expr} {t : TA} {fa : En → R (List D)}
/-- a call of such a def -/
theorem pd_call (G : FnOk X.prog X.w X.K X.mg X.base CX0 k f fd ps (spD X.K m)) (hr : Room k X.A) (hm : X.mg x = some (.ref f)) (hk : PySem.W.keepIn X.K (.ref f) = true) (hb : Binds X.K fd ps []) (ha : PAD X (e :: es) t fa) (hg : Gl X x := by rfl)
    (hdb : (x == ("__debug__" : Str)) = false := by decide) (he : starEach (e :: es) X.env = (false, eval e X.env) :: starEach es X.env := by rfl) (hpl : (backTo pos (starEach es X.env)).any (·.1) = false := by rfl) :
    PD X (.Call (.Name x p) (e :: es) [] pos) (tCall (spD X.K m) [] E0 t) (eCall m fa) := by
  refine ⟨pe_call G hr hg hm hk hb .nil pass0 ha.pe hdb he hpl, fun W F0 σ ρ F H d Q o e q => ?_⟩
  obtain ⟨ds, e1, e2⟩ := R.of_bind e
  refine ha.de W F0 σ ρ F H ds _ o e1 fun vs F1 H1 o1 s1 r1 => ?_
  show spD X.K m (vs ++ []) H1 Q E0
  rw [List.append_nil]
  exact ⟨F1, ds, d, o1.sub, r1, e2, fun v F' H' a b c n r => q v F' H' (o1.step a c b n) (s1.trans a) r⟩
end
end DD

/-! zip of two and enumerate of one of: a list, a tuple, a text -/
namespace DD
open PySem PySem.Spec PyProof.Rows L2

/-- what may be drawn from -/
inductive SK where
  | l (a : Addr) | t (a : Addr) | s (x : Str)
def SK.Of : SK → V → Prop
  | .l a, x => x = .ref a
  | .t a, x => x = .ref a
  | .s z, x => x = .str z
def chV (x : Str) : List V := x.cps.toList.map fun c => V.str ⟨#[c]⟩
def SK.Has (K : PySem.W.Frag) (H : Hp) : SK → List V → Prop
  | .l a, vs => SqL K H a vs
  | .t a, vs => SqT K H a vs
  | .s x, vs => vs = chV x
def SK.At : SK → Addr → Nat → Heap → Prop
  | .l a, it, i, h => h.IsListIter it a i
  | .t a, it, i, h => h.IsTupleIter it a i
  | .s x, it, i, h => ∃ t, h.IsStrIter it (strIterType x) x t i
def SK.objs : SK → List Addr
  | .l a => [a]
  | .t a => [a]
  | .s _ => []
theorem SK.At.there {k : SK} {it : Addr} {i : Nat} {h : Heap} (x : k.At it i h) : ∃ o, h.get? it = some o ∧ ∀ v, o.data ≠ .cell v := by
  cases k with
  | l a => obtain ⟨o, e, c, d⟩ := x; exact ⟨o, e, fun v z => by rw [d] at z; cases z⟩
  | t a => obtain ⟨o, e, c, d⟩ := x; exact ⟨o, e, fun v z => by rw [d] at z; cases z⟩
  | s z => obtain ⟨t, o, e, c, d⟩ := x; exact ⟨o, e, fun v z => by rw [d] at z; cases z⟩
theorem SK.At.at {k : SK} {it : Addr} {i : Nat} {h h' : Heap} (x : k.At it i h) (q : ∀ o, h.get? it = some o → h'.get? it = some o) : k.At it i h' := by
  cases k with
  | l a => obtain ⟨o, e, c, d⟩ := x; exact ⟨o, q o e, c, d⟩
  | t a => obtain ⟨o, e, c, d⟩ := x; exact ⟨o, q o e, c, d⟩
  | s z => obtain ⟨t, o, e, c, d⟩ := x; exact ⟨t, o, q o e, c, d⟩
section
variable {X : Cx} {pins : List (Addr × Obj)} {σ : L2.St} {H : Hp} {s : Shared}
theorem has_inj (I : Inv X pins σ H s) {k : SK} {xs ys : List V} (a : k.Has X.K H xs) (b : k.Has X.K H ys) : xs = ys := by
  cases k with
  | l p => exact I.list_inj a b
  | t p => exact I.tuple_inj a b
  | s z => exact (show xs = chV z from a).trans (show ys = chV z from b).symm
/-- the library's draws from it, in this state -/
theorem sk_draws (I : Inv X pins σ H s) (hh : X.A.in1.handled = none) {k : SK} {vs : List V} {it : Addr} {i : Nat} (h : k.Has X.K H vs) (st : k.At it i s.heap) (ne : ∀ a ∈ k.objs, a ≠ it) :
    ∃ (Pv : Nat → Value → Prop) (Sv : Nat → Heap → Prop), Draws X.prog X.w X.A.in1 it (it :: k.objs) vs.length Pv Sv ∧ Sv i s.heap ∧ (∀ j u, Pv j u → ∃ v, vs[j]? = some v ∧ RelV v u) ∧ ∀ j h', Sv j h' → k.At it j h' := by
  cases k with
  | l a =>
    obtain ⟨its, rv, p, hz⟩ := I.list h
    have hl : vs.length = its.toArray.size := by simpa using rv.length
    rw [hl]
    refine ⟨_, _, Draws.list hh it a (ne a (by simp [SK.objs])) its.toArray, ⟨st, p.isList⟩, fun j u hu => ?_, fun j h' x => x.1⟩
    have hj : j < vs.length := by
      have : j < its.length := (List.getElem?_eq_some_iff.mp (by simpa using hu)).1
      rw [rv.length]; exact this
    obtain ⟨u', hu', ru⟩ := rv.get (List.getElem?_eq_getElem hj)
    have e : u' = u := by
      have : its[j]? = some u := by simpa using hu
      rw [hu'] at this; exact Option.some.inj this
    subst e
    exact ⟨_, List.getElem?_eq_getElem hj, ru⟩
  | t a =>
    obtain ⟨its, rv, p, hz⟩ := I.tuple h
    have hl : vs.length = its.toArray.size := by simpa using rv.length
    rw [hl]
    refine ⟨_, _, Draws.tuple hh it a (ne a (by simp [SK.objs])) its.toArray, ⟨st, p⟩, fun j u hu => ?_, fun j h' x => x.1⟩
    have hj : j < vs.length := by
      have : j < its.length := (List.getElem?_eq_some_iff.mp (by simpa using hu)).1
      rw [rv.length]; exact this
    obtain ⟨u', hu', ru⟩ := rv.get (List.getElem?_eq_getElem hj)
    have e : u' = u := by
      have : its[j]? = some u := by simpa using hu
      rw [hu'] at this; exact Option.some.inj this
    subst e
    exact ⟨_, List.getElem?_eq_getElem hj, ru⟩
  | s z =>
    have e : vs = chV z := h
    subst e
    have hl : (chV z).length = z.cps.size := by simp [chV]
    rw [hl]
    obtain ⟨t, st⟩ := st
    refine ⟨_, _, Draws.text hh it z t, st, fun j u hu => ?_, fun j h' x => ⟨t, x⟩⟩
    obtain ⟨c, tk, hc, rfl⟩ := hu
    refine ⟨.str ⟨#[c]⟩, ?_, ⟨tk, rfl⟩⟩
    unfold chV
    rw [List.getElem?_map, Array.getElem?_toList, hc]
    rfl
/-- iter(it) begins -/
theorem sk_begins (I : Inv X pins σ H s) {k : SK} {vs : List V} {x : V} {u : Value} (hx : k.Of x) (r : RelV x u) (h : k.Has X.K H vs) :
    ∃ (o : Obj) (Hh : Heap → Prop), Begins u o Hh ∧ Hh s.heap ∧ (∀ (h' : Heap) it, h'.get? it = some o → k.At it 0 h') ∧ ∀ a ∈ k.objs, a < s.heap.objs.size := by
  cases k with
  | l a =>
    have e : x = .ref a := hx
    subst e
    cases r
    obtain ⟨its, rv, p, hz⟩ := I.list h
    exact ⟨_, _, begins_list a its.toArray, p.isList, fun h' it e => ⟨_, e, rfl, rfl⟩, fun b hb => by simp [SK.objs] at hb; subst hb; exact p.lt⟩
  | t a =>
    have e : x = .ref a := hx
    subst e
    cases r
    obtain ⟨its, rv, p, hz⟩ := I.tuple h
    exact ⟨_, _, begins_tuple a its.toArray, p, fun h' it e => ⟨_, e, rfl, rfl⟩, fun b hb => by simp [SK.objs] at hb; subst hb; exact p.lt⟩
  | s z =>
    have e : x = .str z := hx
    subst e
    obtain ⟨t, rfl⟩ := r
    exact ⟨_, _, begins_text z t, trivial, fun h' it e => ⟨t, _, e, rfl, rfl⟩, fun b hb => by simp [SK.objs] at hb⟩
end

/-! ### zip -/
def ItZ (K : PySem.W.Frag) (k1 k2 : SK) : It :=
  ⟨fun i H => ∃ xs ys x y, k1.Has K H xs ∧ k2.Has K H ys ∧ xs[i]? = some x ∧ ys[i]? = some y,
    fun i H v H' => ∃ T x y, v = .ref T ∧ H T = none ∧ H' = upd H T (.tup [x, y]) ∧ (∀ xs, k1.Has K H xs → xs[i]? = some x) ∧ ∀ ys, k2.Has K H ys → ys[i]? = some y,
    fun i H => ∃ xs ys, k1.Has K H xs ∧ k2.Has K H ys ∧ i ≤ xs.length ∧ i ≤ ys.length ∧ (i = xs.length ∨ i = ys.length)⟩
structure Sep (z TI TO i1 i2 : Addr) (k1 k2 : SK) : Prop where
  s2 : ZipSep2 z TI TO i1 i2 (i1 :: k1.objs) (i2 :: k2.objs)
  n1 : ∀ a ∈ k1.objs, a ≠ i1
  n2 : ∀ a ∈ k2.objs, a ≠ i2
theorem turn_zipK {P : Program} {w : World} {K : PySem.W.Frag} {elts : List Expr} {kk : Nat} {tpos : Pos} {k1 k2 : SK} {z TI TO i1 i2 : Addr} (S : Sep z TI TO i1 i2 k1 k2) :
    Turn P w K (.Tuple elts kk tpos) (ItZ K k1 k2) [z, TI, TO, i1, i2] z (fun i h => IsZip h z TI TO .none ∧ IsTupOf2 h TI (.ref i1) (.ref i2) ∧ (∃ x y, IsTupOf2 h TO x y) ∧ k1.At i1 i h ∧ k2.At i2 i h) where
  mem := by simp
  obj := fun i h st c hc => by
    obtain ⟨hz, hTI, ⟨x, y, hTO⟩, h1, h2⟩ := st
    have e' : c = z ∨ c = TI ∨ c = TO ∨ c = i1 ∨ c = i2 := by simpa using hc
    rcases e' with q | q | q | q | q
    · rw [q]; exact ⟨_, hz, fun v q => nomatch q⟩
    · rw [q]; exact ⟨_, hTI, fun v q => nomatch q⟩
    · rw [q]; exact ⟨_, hTO, fun v q => nomatch q⟩
    · rw [q]; exact h1.there
    · rw [q]; exact h2.there
  keep := fun i h h' st k => by
    obtain ⟨hz, hTI, ⟨x, y, hTO⟩, h1, h2⟩ := st
    exact ⟨k z (by simp) _ hz, k TI (by simp) _ hTI, ⟨x, y, k TO (by simp) _ hTO⟩, h1.at fun o q => k i1 (by simp) o q, h2.at fun o q => k i2 (by simp) o q⟩
  item := by
    intro X hP hw hK hc i pins s σ H E I hf st hg
    subst hP hw hK
    obtain ⟨hz, hTI, ⟨x0, y0, hTO⟩, h1, h2⟩ := st
    obtain ⟨xs, ys, x, y, hqx, hqy, hx, hy⟩ := hg
    obtain ⟨P1, S1, D1, st1, g1, k1'⟩ := sk_draws I (I.ok.hd hc) hqx h1 S.n1
    obtain ⟨P2, S2, D2, st2, g2, k2'⟩ := sk_draws I (I.ok.hd hc) hqy h2 S.n2
    have hlx : i < xs.length := (List.getElem?_eq_some_iff.mp hx).1
    have hly : i < ys.length := (List.getElem?_eq_some_iff.mp hy).1
    have hzl : z < s.heap.objs.size := Heap.lt_size hz
    refine wpAny_pyNext_zipD2_item S.s2 D1 D2 hz hTI hTO st1 st2 hlx hly fun u u2 h' tk p1 p2 z' TO' h1' h2' hT hsz hk => ?_
    obtain ⟨x', hx', ru⟩ := g1 _ _ p1
    rw [hx] at hx'
    cases hx'
    obtain ⟨y', hy', ru2⟩ := g2 _ _ p2
    rw [hy] at hy'
    cases hy'
    refine ⟨_, rfl, wpAny_letOwnedTupleGo_zip (s := { s with heap := h', toks := tk }) z' fun h'' z'' sb => ?_⟩
    have hT2 : h''.get? s.heap.objs.size = some { cls := .type "tuple", data := .seq #[u, u2] } := (sb.2 _ (Nat.ne_of_gt hzl)).trans hT
    have new : ObjOk X.prog X.w (upd H s.heap.objs.size (.tup [x, y])) h'' s.heap.objs.size (.tup [x, y]) :=
      ⟨by show 2 ≤ sizeLine; decide, [u, u2], .cons ru (.cons ru2 .nil), ⟨_, hT2, rfl, _, rfl⟩⟩
    have I1 : Inv X pins σ (upd H s.heap.objs.size (.tup [x, y])) { s with heap := h'', toks := tk } :=
      I.turnedNew (t' := tk) (ch := [z, TI, TO, i1, i2]) (fun c o hb q => (sb.2 c (fun q' => hb (by simp [q']))).trans (hk c o (fun q' => hb (by simp [q'])) (fun q' => hb (by simp [q'])) (fun q' => hb (by simp [q'])) (fun q' => hb (by simp [q'])) q)) hf (Nat.le_refl _) new
    refine ⟨.ref s.heap.objs.size, _, I1, rfl, ⟨_, x, y, rfl, I.hok.fresh (Nat.le_refl _), rfl, fun l hl => by rw [has_inj I hl hqx]; exact hx, fun l hl => by rw [has_inj I hl hqy]; exact hy⟩, ⟨z'', ?_, ⟨u, u2, ?_⟩, ?_, ?_⟩, fun c hcm => ?_⟩
    · exact (sb.2 _ S.s2.TIz).trans (hk _ _ S.s2.TIz S.s2.TITO S.s2.TIi1 S.s2.TIi2 hTI)
    · exact (sb.2 _ S.s2.TOz).trans TO'
    · exact (k1' _ _ h1').at fun o q => (sb.2 _ (Ne.symm S.s2.zi1)).trans q
    · exact (k2' _ _ h2').at fun o q => (sb.2 _ (Ne.symm S.s2.zi2)).trans q
    · have hlt : c < s.heap.objs.size := by
        have e' : c = z ∨ c = TI ∨ c = TO ∨ c = i1 ∨ c = i2 := by simpa using hcm
        rcases e' with q | q | q | q | q
        · rw [q]; exact hzl
        · rw [q]; exact Heap.lt_size hTI
        · rw [q]; exact Heap.lt_size hTO
        · rw [q]; obtain ⟨_, e1, _⟩ := h1.there; exact Heap.lt_size e1
        · rw [q]; obtain ⟨_, e2, _⟩ := h2.there; exact Heap.lt_size e2
      rw [upd_ne (Nat.ne_of_lt hlt)]
      exact (hf c hcm).1
  done := by
    intro X hP hw hK hc i pins s σ H E I hf st hg
    subst hP hw hK
    obtain ⟨hz, hTI, ⟨x0, y0, hTO⟩, h1, h2⟩ := st
    obtain ⟨xs, ys, hqx, hqy, hix, hiy, hend⟩ := hg
    obtain ⟨P1, S1, D1, st1, g1, k1'⟩ := sk_draws I (I.ok.hd hc) hqx h1 S.n1
    obtain ⟨P2, S2, D2, st2, g2, k2'⟩ := sk_draws I (I.ok.hd hc) hqy h2 S.n2
    exact wpAny_pyNext_zipD2_end S.s2 D1 D2 hz hTI hTO st1 st2 hix hiy hend fun h' tk hk => ⟨rfl, I.turnedL (t' := tk) (ch := [z, TI, TO, i1, i2]) (fun c o hb q =>
      hk c o (fun q' => hb (by simp [q'])) (fun q' => hb (by simp [q'])) (fun q' => hb (by simp [q'])) (fun q' => hb (by simp [q'])) q) hf⟩
  self := fun A i s Q E st h => wpAny_pyIter_zip st.1 h
def iZipK (K : PySem.W.Frag) (ta : TA) : TI := fun σ H R => ta σ H fun vs H1 => ∃ (x y : V) (k1 k2 : SK) (xs ys : List V), vs = [x, y] ∧ k1.Of x ∧ k2.Of y ∧ k1.Has K H1 xs ∧ k2.Has K H1 ys ∧ R (ItZ K k1 k2) H1
theorem pi_zipK {X : Cx} {e e2 : Expr} {ta : TA} {p pos tpos : Pos} {elts : List Expr} {kk : Nat} (hg : Gl X "zip") (hm : X.mg "zip" = none) (ha : PA X [e, e2] ta)
    (hs : starEach [e, e2] X.env = (false, eval e X.env) :: starEach [e2] X.env := by rfl) (hpl : (backTo pos (starEach [e2] X.env)).any (·.1) = false := by rfl) :
    PI X (.Tuple elts kk tpos) (.Call (.Name "zip" p) [e, e2] [] pos) (iZipK X.K ta) := by
  refine ⟨fun pins s σ H R I h => ?_⟩
  refine Call_ (ld_blt I hg hm PyProof.Rows.boot_zip (PyProof.Rows.callWith_type1 (thn (ha.run pos pins s σ H _ I h) fun us s1 ⟨vs, H1, I1, r1, q1⟩ => ?_) hs hpl))
  obtain ⟨x, y, k1, k2, xs, ys, ex, o1, o2, hq1, hq2, q⟩ := q1
  subst ex
  cases r1 with
  | cons r rr =>
    cases rr with
    | cons r' rr =>
      cases rr
      obtain ⟨ob1, Hh1, B1, b1, at1, lt1⟩ := sk_begins I1 o1 r hq1
      obtain ⟨ob2, Hh2, B2, b2, at2, lt2⟩ := sk_begins I1 o2 r' hq2
      refine zip_begins2 B1 B2 b1 b2 fun h' hz hTI hTO h1 h2 hsz hk => wpAny_pyIter_zip hz ?_
      have I2 : Inv X pins σ H1 { s1 with heap := h' } := I1.kept (t' := s1.toks) hk
      have S : Sep (s1.heap.objs.size + 4) (s1.heap.objs.size + 2) (s1.heap.objs.size + 3) s1.heap.objs.size (s1.heap.objs.size + 1) k1 k2 :=
        ⟨zip_sep2 lt1 lt2, fun a ha => Nat.ne_of_lt (lt1 a ha), fun a ha => Nat.ne_of_lt (Nat.lt_succ_of_lt (lt2 a ha))⟩
      refine ⟨s1.heap.objs.size + 4, [s1.heap.objs.size + 4, s1.heap.objs.size + 2, s1.heap.objs.size + 3, s1.heap.objs.size, s1.heap.objs.size + 1], _, _, H1, rfl, I2, turn_zipK S, ⟨hz, hTI, ⟨_, _, hTO⟩, at1 _ _ h1, at2 _ _ h2⟩, fun c hcm => ?_, q⟩
      have e' : c = s1.heap.objs.size + 4 ∨ c = s1.heap.objs.size + 2 ∨ c = s1.heap.objs.size + 3 ∨ c = s1.heap.objs.size ∨ c = s1.heap.objs.size + 1 := by simpa using hcm
      have hle : s1.heap.objs.size ≤ c := by
        rcases e' with z | z | z | z | z
        · rw [z]; exact Nat.le_add_right _ _
        · rw [z]; exact Nat.le_add_right _ _
        · rw [z]; exact Nat.le_add_right _ _
        · rw [z]; exact Nat.le_refl _
        · rw [z]; exact Nat.le_add_right _ _
      exact I1.fpOk hle (I1.hok.fresh hle)
/-! ### enumerate -/
def ItE (K : PySem.W.Frag) (k : SK) : It :=
  ⟨fun i H => ∃ xs x, k.Has K H xs ∧ xs[i]? = some x, fun i H v H' => ∃ T x, v = .ref T ∧ H T = none ∧ H' = upd H T (.tup [.int (i : Nat), x]) ∧ ∀ xs, k.Has K H xs → xs[i]? = some x, fun i H => ∃ xs, k.Has K H xs ∧ i = xs.length⟩
theorem turn_enumK {P : Program} {w : World} {K : PySem.W.Frag} {elts : List Expr} {kk : Nat} {tpos : Pos} {k : SK} (e it : Addr) (hne : e ≠ it) (no : ∀ a ∈ k.objs, a ≠ it ∧ a ≠ e) :
    Turn P w K (.Tuple elts kk tpos) (ItE K k) [e, it] e (fun i h => (∃ old, IsEnum h e it ((i : Nat) : Int) old) ∧ k.At it i h) where
  mem := by simp
  obj := fun i h st b hb => by
    obtain ⟨⟨old, he⟩, ha⟩ := st
    have e' : b = e ∨ b = it := by simpa using hb
    rcases e' with z | z
    · rw [z]; exact ⟨_, he, fun v q => nomatch q⟩
    · rw [z]; exact ha.there
  keep := fun i h h' st k => let ⟨⟨old, he⟩, hi⟩ := st; ⟨⟨old, k e (by simp) _ he⟩, hi.at fun o q => k it (by simp) o q⟩
  item := by
    intro X hP hw hK hc i pins s σ H E I hf st hg
    subst hP hw hK
    obtain ⟨⟨old, he⟩, hit⟩ := st
    obtain ⟨xs, x, hq, hx⟩ := hg
    obtain ⟨P1, S1, D1, st1, g1, k1'⟩ := sk_draws I (I.ok.hd hc) hq hit fun a ha => (no a ha).1
    have hel : e < s.heap.objs.size := Heap.lt_size he
    have hil : it < s.heap.objs.size := by obtain ⟨_, q, _⟩ := hit.there; exact Heap.lt_size q
    have hlx : i < xs.length := (List.getElem?_eq_some_iff.mp hx).1
    have hef : e ∉ it :: k.objs := fun hm => by
      rcases List.mem_cons.mp hm with z | z
      · exact hne z
      · exact (no e z).2 rfl
    refine wpAny_pyNext_enum_itemD D1 he st1 hlx hne hef fun u h' tk pu ho hit' hT hsz hk => ?_
    obtain ⟨x', hx', ru⟩ := g1 _ _ pu
    rw [hx] at hx'
    cases hx'
    refine ⟨_, rfl, wpAny_letOwnedTupleGo_enum (s := { s with heap := h', toks := tk + 1 }) ho fun h'' he' sb => ?_⟩
    have hT2 : h''.get? s.heap.objs.size = some { cls := .type "tuple", data := .seq #[.int i tk, u] } := (sb.2 _ (Nat.ne_of_gt hel)).trans hT
    have new : ObjOk X.prog X.w (upd H s.heap.objs.size (.tup [.int (i : Nat), x])) h'' s.heap.objs.size (.tup [.int (i : Nat), x]) :=
      ⟨by show 2 ≤ sizeLine; decide, [.int i tk, u], .cons ⟨_, rfl⟩ (.cons ru .nil), ⟨_, hT2, rfl, _, rfl⟩⟩
    have I1 : Inv X pins σ (upd H s.heap.objs.size (.tup [.int (i : Nat), x])) { s with heap := h'', toks := tk + 1 } :=
      I.turnedNew (t' := tk + 1) (ch := [e, it]) (fun b ob hb q => (sb.2 b (fun z => hb (by simp [z]))).trans (hk b ob (fun z => hb (by simp [z])) (fun z => hb (by simp [z])) q)) hf (Nat.le_refl _) new
    refine ⟨.ref s.heap.objs.size, _, I1, rfl, ⟨_, x, rfl, I.hok.fresh (Nat.le_refl _), rfl, fun ys hy => by rw [has_inj I hy hq]; exact hx⟩, ⟨⟨u, ?_⟩, (k1' _ _ hit').at fun o q => (sb.2 it (Ne.symm hne)).trans q⟩, fun b hb => ?_⟩
    · have e1 : ((i + 1 : Nat) : Int) = (i : Int) + 1 := by omega
      rw [e1]; exact he'
    · have hb' : b < s.heap.objs.size := by
        have e' : b = e ∨ b = it := by simpa using hb
        rcases e' with z | z
        · rw [z]; exact hel
        · rw [z]; exact hil
      rw [upd_ne (Nat.ne_of_lt hb')]
      exact (hf b hb).1
  done := by
    intro X hP hw hK hc i pins s σ H E I hf st hg
    subst hP hw hK
    obtain ⟨⟨old, he⟩, hit⟩ := st
    obtain ⟨xs, hq, hx⟩ := hg
    obtain ⟨P1, S1, D1, st1, g1, k1'⟩ := sk_draws I (I.ok.hd hc) hq hit fun a ha => (no a ha).1
    obtain ⟨f0, f1, f2, f3, f4, f5⟩ := hf it (by simp)
    rw [hx] at st1
    exact wpAny_pyNext_enum_endD D1 he st1 fun h' eb => ⟨rfl, I.turned (t' := s.toks) (fun b o hb q => eb b o hb q) f0 f1 f3 f4 f5⟩
  self := fun A i s Q E st h => let ⟨⟨_, he⟩, _⟩ := st; wpAny_pyIter_enum he h
def iEnumK (K : PySem.W.Frag) (ta : TA) : TI := fun σ H R => ta σ H fun vs H1 => ∃ (x : V) (k : SK) (xs : List V), vs = [x] ∧ k.Of x ∧ k.Has K H1 xs ∧ R (ItE K k) H1
end DD

namespace PySem
namespace DDE
open Sem (wp)
theorem meets_enumB {v : Value} {o : Obj} {H : Heap → Prop} (B : Begins v o H) :
    Meets (Builtin.«enumerate.__new__» ⟨[.type "enumerate", v], []⟩) (fun _ R s => H s.heap ∧
      R (.ok (.ret (.ref (s.heap.push o).objs.size))) { s with heap := (s.heap.push o).push { cls := .type "enumerate", data := .fields #[.none, .bool false, .ref s.heap.objs.size, rawInt 0, .none, .none] } }) :=
  .of_wp fun prog w A R s h => by
    obtain ⟨hp, g, d, tk, os⟩ := s; obtain ⟨h1, h⟩ := h
    have hsub := sub_enumerate
    have q1 : ∀ {A' : Around} {E : Value → Shared → Prop} {Q : Value → Shared → Prop}, Q (.ref hp.objs.size) ⟨hp.push o, g, d, tk, os⟩ → wpAny (model prog w) A' (pyIter v) Q E ⟨hp, g, d, tk, os⟩ :=
      fun q => B.iter prog w _ _ ⟨hp, g, d, tk, os⟩ _ h1 q
    wp_walk using q1
    refine wpAny_stack_any fun st => wpAny_pure ?_
    split
    · rename_i c _ _ _ _ _
      cases (c == Value.type "enumerate")
      · wp_walk using q1
        exact ⟨_, rfl, h⟩
      · wp_walk using q1
        exact ⟨_, rfl, h⟩
    · wp_walk using q1
      exact ⟨_, rfl, h⟩
theorem call_enumB {prog : Program} {w : World} {A : Around} {E : Value → Shared → Prop} {s : Shared} {v : Value} {o : Obj} {H : Heap → Prop} {Q : Value → Shared → Prop} (B : Begins v o H) (h1 : H s.heap)
    (h : ∀ h', IsEnum h' (s.heap.objs.size + 1) s.heap.objs.size 0 .none → h'.get? s.heap.objs.size = some o → h'.objs.size = s.heap.objs.size + 2 →
      (∀ b o, s.heap.get? b = some o → h'.get? b = some o) → Q (.ref (s.heap.objs.size + 1)) { s with heap := h' }) : wpAny (model prog w) A (call (.type "enumerate") [v]) Q E s := by
  refine callType_new F.called_enumerate (by decide) (F.typeCall_enumerate_1 _) (F.newCall_enumerate_1 _) (fun obj => F.args_object_init_2 obj _) F.entry_enumerate_new (meets_enumB B) ⟨h1, ?_⟩
  have hz : (s.heap.push o).objs.size = s.heap.objs.size + 1 := Heap.size_push ..
  show _ ∧ _
  rw [hz]
  have he : IsEnum ((s.heap.push o).push { cls := .type "enumerate", data := .fields #[.none, .bool false, .ref s.heap.objs.size, rawInt 0, .none, .none] }) (s.heap.objs.size + 1) s.heap.objs.size 0 .none := by
    have := Heap.get?_push_size (s.heap.push o) (o := { cls := .type "enumerate", data := .fields #[.none, .bool false, .ref s.heap.objs.size, rawInt 0, .none, .none] }) rfl
    rw [hz] at this; exact this
  exact ⟨⟨_, he, rfl⟩, h _ he (Heap.get?_push_of_some _ (Heap.get?_push_size _ B.free)) (by rw [Heap.size_push, hz]) fun b o x => Heap.get?_push_of_some _ (Heap.get?_push_of_some _ x)⟩
end DDE
end PySem
namespace DD
open PySem PySem.Spec PyProof.Rows L2
theorem pi_enumK {X : Cx} {e : Expr} {ta : TA} {p pos tpos : Pos} {elts : List Expr} {kk : Nat} (hg : Gl X "enumerate") (hm : X.mg "enumerate" = none) (ha : PA X [e] ta) (hs : starEach [e] X.env = [(false, eval e X.env)] := by rfl) :
    PI X (.Tuple elts kk tpos) (.Call (.Name "enumerate" p) [e] [] pos) (iEnumK X.K ta) := by
  refine ⟨fun pins s σ H R I h => ?_⟩
  refine Call_ (ld_blt I hg hm PyProof.Rows.boot_enumerate (PyProof.Rows.callWith_type1 (thn (ha.run pos pins s σ H _ I h) fun us s1 ⟨vs, H1, I1, r1, q1⟩ => ?_) hs rfl))
  obtain ⟨x, k, xs, ex, o1, hq, q⟩ := q1
  subst ex
  cases r1 with
  | cons r rr =>
    cases rr
    obtain ⟨ob, Hh, B, b1, at1, lt1⟩ := sk_begins I1 o1 r hq
    refine DDE.call_enumB B b1 fun h' he hit hsz hk => wpAny_pyIter_enum he ?_
    have I2 : Inv X pins σ H1 { s1 with heap := h' } := I1.kept (t' := s1.toks) hk
    refine ⟨s1.heap.objs.size + 1, [s1.heap.objs.size + 1, s1.heap.objs.size], _, _, H1, rfl, I2, turn_enumK (s1.heap.objs.size + 1) s1.heap.objs.size (Nat.succ_ne_self _) (fun a ha => ⟨Nat.ne_of_lt (lt1 a ha), Nat.ne_of_lt (Nat.lt_succ_of_lt (lt1 a ha))⟩), ⟨⟨.none, he⟩, at1 _ _ hit⟩, fun b hb => ?_, q⟩
    have e' : b = s1.heap.objs.size + 1 ∨ b = s1.heap.objs.size := by simpa using hb
    have hle : s1.heap.objs.size ≤ b := by
      rcases e' with z | z
      · rw [z]; exact Nat.le_add_right _ _
      · rw [z]; exact Nat.le_refl _
    exact I1.fpOk hle (I1.hok.fresh hle)

/-! ### the items of a sequence -/
def items : D → R (List D)
  | .tup ds => .ok ds
  | .lst ds => .ok ds
  | .rol ds => .ok ds
  | .str z => .ok (chars z)
  | _ => .bad
theorem rps_chars {K : PySem.W.Frag} {F : Hp} (z : Str) : Rps K F (chV z) (chars z) := by
  refine .of (by simp [chV, chars]) fun i v d h1 h2 => ?_
  unfold chV at h1
  unfold chars at h2
  rw [List.getElem?_map, Array.getElem?_toList] at h1 h2
  cases e : z.cps[i]? with
  | none => rw [e] at h1; cases h1
  | some c =>
    rw [e] at h1 h2
    cases h1; cases h2
    exact rp_str.mpr rfl
/-- the source of data -/
theorem sk_of {K : PySem.W.Frag} {F : Hp} {v : V} {d : D} {ds : List D} (r : Rp K F v d) (h : items d = .ok ds) : ∃ (k : SK) (xs : List V), k.Of v ∧ Rps K F xs ds ∧ ∀ F2 H2, Same F F2 → Same F2 H2 → k.Has K H2 xs := by
  cases d <;> first | (cases h; done) | skip
  · cases h
    cases rp_str.mp r
    exact ⟨.s _, _, rfl, rps_chars _, fun _ _ _ _ => rfl⟩
  · cases h
    obtain ⟨a, xs, rfl, ha, r⟩ := rp_tup.mp r
    exact ⟨.t a, xs, rfl, r, fun F2 H2 s2 s3 => Same.seqT s3 (Same.seqT s2 ha)⟩
  · cases h
    obtain ⟨a, xs, rfl, ha, r⟩ := rp_lst.mp r
    exact ⟨.l a, xs, rfl, r, fun F2 H2 s2 s3 => SqL.of (s3 _ _ (s2 _ _ ha))⟩
  · cases h
    obtain ⟨a, xs, rfl, ha, r⟩ := rp_rol.mp r
    exact ⟨.l a, xs, rfl, r, fun F2 H2 s2 s3 => s3.seq (s2.seq ha)⟩
def zipD : List D → List D → List D
  | a :: as, b :: bs => .tup [a, b] :: zipD as bs
  | _, _ => []
theorem zipD_length : ∀ as bs : List D, (zipD as bs).length = min as.length bs.length
  | [], bs => by simp [zipD]
  | a :: as, [] => by simp [zipD]
  | a :: as, b :: bs => by simp [zipD, zipD_length as bs]
theorem zipD_get : ∀ {as bs : List D} {i : Nat} {d : D}, (zipD as bs)[i]? = some d → ∃ a b, as[i]? = some a ∧ bs[i]? = some b ∧ d = .tup [a, b]
  | [], bs, i, d, h => by simp [zipD] at h
  | a :: as, [], i, d, h => by simp [zipD] at h
  | a :: as, b :: bs, 0, d, h => by simp [zipD] at h; exact ⟨a, b, rfl, rfl, h.symm⟩
  | a :: as, b :: bs, i + 1, d, h => by
    obtain ⟨x, y, h1, h2, h3⟩ := zipD_get (as := as) (bs := bs) (i := i) (d := d) (by simpa [zipD] using h)
    exact ⟨x, y, by simpa using h1, by simpa using h2, h3⟩
def dZip : List D → R (List D)
  | [x, y] => items x >>= fun as => items y >>= fun bs => .ok (zipD as bs)
  | _ => .bad
def enumD (k : Nat) : List D → List D
  | [] => []
  | d :: ds => .tup [.int (k : Int), d] :: enumD (k + 1) ds
theorem enumD_length : ∀ (ds : List D) (k : Nat), (enumD k ds).length = ds.length
  | [], k => rfl
  | d :: ds, k => by simp [enumD, enumD_length ds]
theorem enumD_get : ∀ {ds : List D} {k i : Nat} {d : D}, (enumD k ds)[i]? = some d → ∃ a, ds[i]? = some a ∧ d = .tup [.int ((k + i : Nat) : Int), a]
  | [], k, i, d, h => by simp [enumD] at h
  | a :: ds, k, 0, d, h => by simp [enumD] at h; exact ⟨a, rfl, h.symm⟩
  | a :: ds, k, i + 1, d, h => by
    obtain ⟨x, h1, h2⟩ := enumD_get (ds := ds) (k := k + 1) (i := i) (d := d) (by simpa [enumD] using h)
    exact ⟨x, by simpa using h1, by rw [h2, show k + 1 + i = k + (i + 1) from by omega]⟩
def dEnum : List D → R (List D)
  | [x] => items x >>= fun as => .ok (enumD 0 as)
  | _ => .bad
section
variable {X : Cx} {e e2 : Expr} {ta : TA} {fa : En → R (List D)} {p pos tpos : Pos} {elts : List Expr} {kk : Nat}
theorem pid_zip (hm : X.mg "zip" = none) (ha : PAD X [e, e2] ta fa) (hg : Gl X "zip" := by rfl)
    (hs : starEach [e, e2] X.env = (false, eval e X.env) :: starEach [e2] X.env := by rfl) (hpl : (backTo pos (starEach [e2] X.env)).any (·.1) = false := by rfl) :
    PID X (.Tuple elts kk tpos) (.Call (.Name "zip" p) [e, e2] [] pos) (iZipK X.K ta) (fun ρ => fa ρ >>= dZip) := by
  refine ⟨pi_zipK hg hm ha.pe hs hpl, fun W F0 σ ρ F H ds Rk o e q => ?_⟩
  obtain ⟨xs, e1, e2⟩ := R.of_bind e
  refine ha.de W F0 σ ρ F H xs _ o e1 fun vs F1 H1 o1 s1 r1 => ?_
  unfold dZip at e2
  split at e2
  · obtain ⟨as, e3, e4⟩ := R.of_bind e2
    obtain ⟨bs, e5, e6⟩ := R.of_bind e4
    cases e6
    obtain ⟨y, ys, rfl, r2, r3⟩ := r1.of_cons
    obtain ⟨z, zs, rfl, r4, r5⟩ := r3.of_cons
    cases r5.of_nil
    obtain ⟨k1, us, ok1, ru, h1⟩ := sk_of r2 e3
    obtain ⟨k2, ws, ok2, rw', h2⟩ := sk_of r4 e5
    have lu := ru.length
    have lw := rw'.length
    refine ⟨y, z, k1, k2, us, ws, rfl, ok1, ok2, h1 _ _ (Same.refl _) o1.sub, h2 _ _ (Same.refl _) o1.sub, q _ F1 H1 o1 s1 fun F2 H2 s2 s3 i => ⟨fun hi => ?_, fun d hd => ?_⟩⟩
    · rw [zipD_length] at hi
      exact ⟨us, ws, h1 _ _ s2 s3, h2 _ _ s2 s3, by omega, by omega, by omega⟩
    · obtain ⟨a, b, ha', hb', rfl⟩ := zipD_get hd
      obtain ⟨u, hu, ru'⟩ := ru.get ha'
      obtain ⟨w, hw, rw''⟩ := rw'.get hb'
      refine ⟨⟨us, ws, u, w, h1 _ _ s2 s3, h2 _ _ s2 s3, hu, hw⟩, fun x H3 hy => ?_⟩
      obtain ⟨T, x', y', rfl, hT, rfl, g1, g2⟩ := hy
      have q1 := g1 us (h1 _ _ s2 s3)
      have q2 := g2 ws (h2 _ _ s2 s3)
      rw [hu] at q1
      rw [hw] at q2
      cases q1; cases q2
      have hf : F2 T = none := Same.free s3 hT
      have sT := s2.trans (same_upd (u := .tup [u, w]) hf)
      exact .inr ⟨T, _, hT, rfl, rp_tup.mpr ⟨T, _, rfl, SqT.of upd_same, .cons (ru'.mono sT) (.cons (rw''.mono sT) .nil)⟩⟩
  · cases e2
theorem pid_enum (hm : X.mg "enumerate" = none) (ha : PAD X [e] ta fa) (hg : Gl X "enumerate" := by rfl) (hs : starEach [e] X.env = [(false, eval e X.env)] := by rfl) :
    PID X (.Tuple elts kk tpos) (.Call (.Name "enumerate" p) [e] [] pos) (iEnumK X.K ta) (fun ρ => fa ρ >>= dEnum) := by
  refine ⟨pi_enumK hg hm ha.pe hs, fun W F0 σ ρ F H ds Rk o e q => ?_⟩
  obtain ⟨xs, e1, e2⟩ := R.of_bind e
  refine ha.de W F0 σ ρ F H xs _ o e1 fun vs F1 H1 o1 s1 r1 => ?_
  unfold dEnum at e2
  split at e2
  · obtain ⟨as, e3, e4⟩ := R.of_bind e2
    cases e4
    obtain ⟨y, ys, rfl, r2, r3⟩ := r1.of_cons
    cases r3.of_nil
    obtain ⟨k1, us, ok1, ru, h1⟩ := sk_of r2 e3
    have lu := ru.length
    refine ⟨y, k1, us, rfl, ok1, h1 _ _ (Same.refl _) o1.sub, q _ F1 H1 o1 s1 fun F2 H2 s2 s3 i => ⟨fun hi => ?_, fun d hd => ?_⟩⟩
    · rw [enumD_length] at hi
      exact ⟨us, h1 _ _ s2 s3, by omega⟩
    · obtain ⟨a, ha', rfl⟩ := enumD_get hd
      obtain ⟨u, hu, ru'⟩ := ru.get ha'
      refine ⟨⟨us, u, h1 _ _ s2 s3, hu⟩, fun x H3 hy => ?_⟩
      obtain ⟨T, x', rfl, hT, rfl, g1⟩ := hy
      have q1 := g1 us (h1 _ _ s2 s3)
      rw [hu] at q1
      cases q1
      have hf : F2 T = none := Same.free s3 hT
      have sT := s2.trans (same_upd (u := .tup [.int (i : Nat), u]) hf)
      refine .inr ⟨T, _, hT, rfl, rp_tup.mpr ⟨T, _, rfl, SqT.of upd_same, .cons (rp_int.mpr ?_) (.cons (ru'.mono sT) .nil)⟩⟩
      rw [Nat.zero_add]
  · cases e2
/-- any sequence, walked -/
theorem pid_seq {tg l : Expr} {tl : TE} {f : En → R D} (h : PID X tg l (iList X.K tl) (fun ρ => f ρ >>= asLst)) : True := trivial
end

/-! ### in: one sign in a text, flat data in a list or a tuple -/
def flatD : D → Bool
  | .non => true | .bl _ => true | .int _ => true | .str _ => true | _ => false
def eqD : D → D → Bool
  | .non, .non => true
  | .bl a, .bl b => a == b
  | .bl a, .int b => (if a then 1 else 0) == b
  | .int a, .bl b => a == (if b then 1 else 0)
  | .int a, .int b => a == b
  | .str a, .str b => a == b
  | _, _ => false
theorem flat_ok {K : PySem.W.Frag} {F : Hp} {v : V} {d : D} (r : Rp K F v d) (h : flatD d = true) : flatV v = true := by
  cases d <;> first | (cases h; done) | (simp only [Rp] at r; subst r; rfl)
theorem eq_ok {K : PySem.W.Frag} {F : Hp} {v w : V} {d e : D} (r : Rp K F v d) (r' : Rp K F w e) (h : flatD d = true) (h' : flatD e = true) : eqV v w = eqD d e := by
  cases d <;> first | (cases h; done) | (cases e <;> first | (cases h'; done) | (simp only [Rp] at r r'; subst r; subst r'; rfl))
theorem flats_ok {K : PySem.W.Frag} {F : Hp} : ∀ {vs : List V} {ds : List D}, Rps K F vs ds → ds.all flatD = true → vs.all flatV = true
  | vs, [], r, _ => by rw [r.of_nil]; rfl
  | vs, d :: ds, r, h => by
    obtain ⟨y, ys, rfl, r1, r2⟩ := r.of_cons
    rw [List.all_cons, Bool.and_eq_true] at h ⊢
    exact ⟨flat_ok r1 h.1, flats_ok r2 h.2⟩
theorem in_ok {K : PySem.W.Frag} {F : Hp} {x : V} {dx : D} (rx : Rp K F x dx) (hx : flatD dx = true) : ∀ {vs : List V} {ds : List D}, Rps K F vs ds → ds.all flatD = true → inV x vs = ds.any fun d => eqD d dx
  | vs, [], r, _ => by rw [r.of_nil]; rfl
  | vs, d :: ds, r, h => by
    obtain ⟨y, ys, rfl, r1, r2⟩ := r.of_cons
    rw [List.all_cons, Bool.and_eq_true] at h
    have ih := in_ok rx hx r2 h.2
    unfold inV at ih ⊢
    rw [List.any_cons, List.any_cons, ih, eq_ok r1 rx h.1 hx]
def inQ (x : D) (ds : List D) : R Bool := guardR (flatD x && ds.all flatD) >>= fun _ => .ok (ds.any fun d => eqD d x)
def inB : D → D → R Bool
  | .str a, .str z => match a.cps.toList with
    | [c] => .ok (decide (c ∈ z.cps.toList))
    | _ => .bad
  | x, .tup ds => inQ x ds
  | x, .lst ds => inQ x ds
  | x, .rol ds => inQ x ds
  | _, _ => .bad
def dIn (x y : D) : R D := inB x y >>= fun b => .ok (.bl b)
def dNotIn (x y : D) : R D := inB x y >>= fun b => .ok (.bl (!b))
def rInS (neg : Bool) : R2 := fun x y H Q => ∃ (c : Nat) (z : Str), x = .str ⟨#[c]⟩ ∧ y = .str z ∧ Q (.bl (if neg then !decide (c ∈ z.cps.toList) else decide (c ∈ z.cps.toList))) H
def rInA (K : PySem.W.Frag) (neg : Bool) : R2 := fun x y H Q => rInS neg x y H Q ∨ rIn K neg x y H Q
section
variable {X : Cx}
theorem op_inA : OpR X (compareOp .In) (rInA X.K false) := OpR.or (r := rInS false) op_in_sign op_in_seq
theorem op_notInA : OpR X (compareOp .NotIn) (rInA X.K true) := OpR.or (r := rInS true) op_notIn_sign op_notIn_seq
end
theorem one_cp {a : Str} {c : Nat} (h : a.cps.toList = [c]) : a = ⟨#[c]⟩ := TL.ext_tl (by rw [show TL.tl a = [c] from h])
theorem inB_ok {K : PySem.W.Frag} {neg : Bool} {W F0 F H : Hp} {σ : L2.St} {ρ : En} {x y : V} {dx dy : D} {b : Bool} {Q : VK} (o : Ok K W F0 σ ρ F H) (rx : Rp K F x dx) (ry : Rp K F y dy) (h : inB dx dy = .ok b) (q : Q (.bl (if neg then !b else b)) H) : rInA K neg x y H Q := by
  unfold inB at h
  split at h
  · split at h
    · rename_i c hc
      cases h
      exact .inl ⟨c, _, by rw [rp_str.mp rx, one_cp hc], rp_str.mp ry, q⟩
    · cases h
  · obtain ⟨u, g, h⟩ := R.of_bind h
    cases h
    have g' := of_guard g
    rw [Bool.and_eq_true] at g'
    obtain ⟨a, xs, rfl, ha, r⟩ := rp_tup.mp ry
    exact .inr ⟨a, xs, rfl, .inr (Same.seqT o.sub ha), flat_ok rx g'.1, flats_ok r g'.2, by rw [in_ok rx g'.1 r g'.2]; exact q⟩
  · obtain ⟨u, g, h⟩ := R.of_bind h
    cases h
    have g' := of_guard g
    rw [Bool.and_eq_true] at g'
    obtain ⟨a, xs, rfl, ha, r⟩ := rp_lst.mp ry
    exact .inr ⟨a, xs, rfl, .inl (SqL.of (o.sub _ _ ha)), flat_ok rx g'.1, flats_ok r g'.2, by rw [in_ok rx g'.1 r g'.2]; exact q⟩
  · obtain ⟨u, g, h⟩ := R.of_bind h
    cases h
    have g' := of_guard g
    rw [Bool.and_eq_true] at g'
    obtain ⟨a, xs, rfl, ha, r⟩ := rp_rol.mp ry
    exact .inr ⟨a, xs, rfl, .inl (o.sub.seq ha), flat_ok rx g'.1, flats_ok r g'.2, by rw [in_ok rx g'.1 r g'.2]; exact q⟩
  · cases h
theorem dr_in {K : PySem.W.Frag} : DR2 K (rInA K false) dIn := fun W F0 σ ρ F H x y dx dy d Q o rx ry e q => by
  obtain ⟨b, e1, e2⟩ := R.of_bind e
  cases e2
  exact inB_ok o rx ry e1 (q _ F H o (Same.refl _) (rp_bl.mpr rfl))
theorem dr_notIn {K : PySem.W.Frag} : DR2 K (rInA K true) dNotIn := fun W F0 σ ρ F H x y dx dy d Q o rx ry e q => by
  obtain ⟨b, e1, e2⟩ := R.of_bind e
  cases e2
  exact inB_ok o rx ry e1 (q _ F H o (Same.refl _) (rp_bl.mpr rfl))

/-! ### a dict of the module with text keys -/
/-- at d: a written dict with these texts as keys, data behind them -/
structure CDict (K : PySem.W.Frag) (w : World) (a : Addr) (t : List (Str × D)) : Prop where
  kd : ∃ es n, KDict K w a es n
  at_ : ∀ z d, t.lookup z = some d → ∃ (u : Value) (v : V), PySem.W.nsIn K a z = some (some u) ∧ RelV v u ∧ ∀ F, Rp K F v d
  no : ∀ z, t.lookup z = none → PySem.W.nsIn K a z = some none
def cIn (t : List (Str × D)) : D → R D
  | .str z => .ok (.bl (t.lookup z).isSome)
  | _ => .bad
def cAt (t : List (Str × D)) : D → R D
  | .str z => match t.lookup z with
    | some d => .ok d
    | none => .bad
  | _ => .bad
section
variable {X : Cx} {e : Expr} {te : TE} {f : En → R D} {t : List (Str × D)} {a : Addr} {x : Str} {p pos : Pos}
theorem ptd_inC (C : CDict X.K X.w a t) (hm : X.mg x = some (.ref a)) (he : PD X e te f) (hg : Gl X x := by rfl) (hdb : (x == ("__debug__" : Str)) = false := by decide) (hb : behindInMarks .In (.Name x p) = false := by rfl) :
    ∃ tt, PTD X (.Compare e [.In] [.Name x p] pos) tt (tst (fun ρ => f ρ >>= cIn t)) := by
  obtain ⟨es, n, kd⟩ := C.kd
  refine ⟨_, pt_cmpR (op_in_kd kd) he.pe (pe_glob (v := .ref a) hg hm rfl hdb) hb, dt_of fun W F0 σ ρ F H d Q o e1 q => ?_⟩
  obtain ⟨z, e2, e3⟩ := R.of_bind e1
  refine he.de W F0 σ ρ F H z _ o e2 fun v F1 H1 o1 s1 r1 => ?_
  cases z <;> first | (cases e3; done) | skip
  rename_i z
  cases e3
  cases hl : t.lookup z with
  | none => exact ⟨z, none, rp_str.mp r1, rfl, C.no z hl, q _ F1 H1 o1 s1 (rp_bl.mpr (by rw [hl]; rfl))⟩
  | some d =>
    obtain ⟨u, v', h1, h2, h3⟩ := C.at_ z d hl
    exact ⟨z, some u, rp_str.mp r1, rfl, h1, q _ F1 H1 o1 s1 (rp_bl.mpr (by rw [hl]; rfl))⟩
theorem pd_atC (C : CDict X.K X.w a t) (hm : X.mg x = some (.ref a)) (he : PD X e te f) (hg : Gl X x := by rfl) (hdb : (x == ("__debug__" : Str)) = false := by decide) (hs : PlainIx e := by exact fun _ _ => rfl) :
    PD X (.Subscript (.Name x p) e pos) (tOp (rIxD X.K X.w) (tC (.ref a)) te) (fun ρ => f ρ >>= cAt t) := by
  refine ⟨pe_ix ix_kdict (pe_glob (v := .ref a) hg hm rfl hdb) he.pe hs, fun W F0 σ ρ F H d Q o e1 q => ?_⟩
  obtain ⟨z, e2, e3⟩ := R.of_bind e1
  refine he.de W F0 σ ρ F H z _ o e2 fun v F1 H1 o1 s1 r1 => ?_
  cases z <;> first | (cases e3; done) | skip
  rename_i z
  have e4 : (match t.lookup z with
    | some d => (.ok d : R D)
    | none => .bad) = .ok d := e3
  split at e4
  · rename_i d' hl
    cases e4
    obtain ⟨u, v', h1, h2, h3⟩ := C.at_ _ _ hl
    obtain ⟨es, n, kd⟩ := C.kd
    exact ⟨a, _, v', rfl, rp_str.mp r1, ⟨es, n, u, kd.at_, kd.lit, h1, h2⟩, q _ F1 H1 o1 s1 (h3 F1)⟩
  · cases e4
end

/-! ### a written dict's display with text keys, and get -/
inductive PPsD (X : Cx) (pos : Pos) : List (Option Expr) → List Expr → List (TE × TE) → List Str → List (En → R D) → Prop where
  | nil : PPsD X pos [] [] [] [] []
  | cons {k v : Expr} {ks : List (Option Expr)} {vs : List Expr} {z : Str} {tv : TE} {fv : En → R D} {trs : List (TE × TE)} {zs : List Str} {fs : List (En → R D)} (hk : PE X k (tC (.str z))) (hv : PD X v tv fv) (hr : PPsD X pos ks vs trs zs fs) :
      PPsD X pos (some k :: ks) (v :: vs) ((tC (.str z), tv) :: trs) (z :: zs) (fv :: fs)
theorem PPsD.pp {X : Cx} {pos : Pos} : ∀ {ks : List (Option Expr)} {vs : List Expr} {trs : List (TE × TE)} {zs : List Str} {fs : List (En → R D)}, PPsD X pos ks vs trs zs fs → PPs X pos ks vs trs
  | _, _, _, _, _, .nil => pps_nil
  | _, _, _, _, _, .cons hk hv hr => pps_cons hk hv.pe hr.pp
def eAll : List (En → R D) → En → R (List D)
  | [], _ => .ok []
  | f :: fs, ρ => f ρ >>= fun d => eAll fs ρ >>= fun ds => .ok (d :: ds)
def eDisp (zs : List Str) (fs : List (En → R D)) : En → R D := fun ρ => eAll fs ρ >>= fun ds => .ok (.dic (zs.map Sum.inr) ds)
theorem eAll_length : ∀ {fs : List (En → R D)} {ρ : En} {ds : List D}, eAll fs ρ = .ok ds → ds.length = fs.length
  | [], ρ, ds, h => by cases h; rfl
  | f :: fs, ρ, ds, h => by
    obtain ⟨d, h1, h2⟩ := R.of_bind h
    obtain ⟨es, h3, h4⟩ := R.of_bind h2
    cases h4
    simp [eAll_length h3]
section
variable {X : Cx} {pos : Pos}
theorem PPsD.lens {ks : List (Option Expr)} {vs : List Expr} {trs : List (TE × TE)} {zs : List Str} {fs : List (En → R D)} (h : PPsD X pos ks vs trs zs fs) : zs.length = fs.length := by
  induction h with
  | nil => rfl
  | cons _ _ _ ih => simp [ih]
theorem de_pairs {ks : List (Option Expr)} {vs : List Expr} {trs : List (TE × TE)} {zs : List Str} {fs : List (En → R D)} (h : PPsD X pos ks vs trs zs fs) : ∀ (W F0 : Hp) (σ : L2.St) (ρ : En) (F H : Hp) (ds : List D) (Q : List (V × V) → Hp → Prop), Ok X.K W F0 σ ρ F H → eAll fs ρ = .ok ds →
    (∀ xs F' H', Ok X.K W F0 σ ρ F' H' → Same F F' → Rps X.K F' xs ds → Q ((zs.map V.str).zip xs) H') → tPairs trs σ H Q := by
  induction h with
  | nil =>
    intro W F0 σ ρ F H ds Q o e q
    cases e
    exact q [] F H o (Same.refl _) .nil
  | @cons k v ks vs z tv fv trs zs fs hk hv hr ih =>
    intro W F0 σ ρ F H ds Q o e q
    obtain ⟨d, h1, h2⟩ := R.of_bind e
    obtain ⟨es, h3, h4⟩ := R.of_bind h2
    cases h4
    show tC (.str z) σ H _
    refine hv.de W F0 σ ρ F H d _ o h1 fun x F1 H1 o1 s1 r1 => ?_
    refine ih W F0 σ ρ F1 H1 es _ o1 h3 fun xs F2 H2 o2 s2 r2 => ?_
    exact q (x :: xs) F2 H2 o2 (s1.trans s2) (.cons (r1.mono s2) r2)
theorem mergeK_new : ∀ (more kvs : List (Key × V)), ((kvs ++ more).map (·.1)).Nodup → mergeK kvs more = kvs ++ more
  | [], kvs, _ => by simp [mergeK]
  | kv :: more, kvs, h => by
    have h1 : valV kvs kv.1 = none := by
      cases e : valV kvs kv.1 with
      | none => rfl
      | some v =>
        exfalso
        have hm : kv.1 ∈ kvs.map (·.1) := by
          have := valV_any kv.1 kvs
          rw [e] at this
          obtain ⟨p, hp, hq⟩ := List.any_eq_true.mp (by rw [this]; rfl)
          exact List.mem_map.mpr ⟨p, hp, of_decide_eq_true hq⟩
        rw [List.map_append, List.map_cons] at h
        exact (List.nodup_append.mp h).2.2 _ hm _ List.mem_cons_self rfl
    show mergeK (putK kvs kv.1 kv.2) more = kvs ++ kv :: more
    rw [putK_new _ h1, mergeK_new more (kvs ++ [kv]) (by simpa using h)]
    simp
theorem zip_map_pair (zs : List Str) (xs : List V) : ∀ (_ : zs.length = xs.length), (zs.map V.str).zip xs = ((zs.map (Sum.inr : Str → Key)).zip xs).map fun kv => (kV kv.1, kv.2) := by
  induction zs generalizing xs with
  | nil => intro _; rfl
  | cons z zs ih =>
    intro h
    cases xs with
    | nil => cases h
    | cons x xs =>
      simp only [List.map_cons, List.zip_cons_cons]
      rw [ih xs (by simpa using h)]
      rfl
theorem pd_disp {keys : List (Option Expr)} {values : List Expr} {trs : List (TE × TE)} {zs : List Str} {fs : List (En → R D)} (h : PPsD X pos keys values trs zs fs) (hall : keys.all (·.isSome) = true := by rfl) (hl : keys.length = values.length := by rfl) (h0 : keys ≠ [] := by exact fun z => by cases z) (h15 : keys.length ≤ 15 := by decide)
    (hz : zs.Nodup := by decide +kernel) (h15' : zs.length ≤ 15 := by decide) : PD X (.Dict keys values pos) (tDisp trs) (eDisp zs fs) := by
  refine ⟨pe_disp h.pp hall hl h0 h15, fun W F0 σ ρ F H d Q o e q => ?_⟩
  obtain ⟨ds, e1, e2⟩ := R.of_bind e
  cases e2
  intro p hp
  have fp := (o.free hp).1
  have wp := (o.free hp).2
  have ap := o.apart hp
  have o1 := (o.pushH (.dK []) hp).guard (u := .dK []) upd_same fp ap
  refine de_pairs h _ _ σ ρ F _ ds _ o1.self e1 fun xs F2 H2 o2 s2 r2 => ?_
  have lx : zs.length = xs.length := by rw [r2.length, eAll_length e1]; exact h.lens
  have hp2 : H2 p = some (.dK []) := o2.wld p _ upd_same
  have fp2 : F2 p = none := o2.new p _ upd_same fp
  have nd : (((zs.map (Sum.inr : Str → Key)).zip xs).map (·.1)).Nodup := by
    rw [List.map_fst_zip (by simp [lx])]
    exact List.Pairwise.map _ (fun a b hab => fun e => hab (Sum.inr.inj e)) hz
  refine ⟨hp2, (zs.map (Sum.inr : Str → Key)).zip xs, zip_map_pair zs xs lx, by rw [List.length_zip]; simp; omega, ?_⟩
  rw [mergeK_new _ [] (by simpa using nd)]
  have o3 := (o2.unguard wp).rebase o.toOkB
  have o4 := o3.alter (u := .dK ([] ++ (zs.map (Sum.inr : Str → Key)).zip xs)) fp2 wp ap
  have s4 : Same F2 (upd F2 p (.dK ((zs.map (Sum.inr : Str → Key)).zip xs))) := same_upd fp2
  exact q _ _ _ (o4.freezeAt upd_same fp2 wp ap) (s2.trans s4) (rp_dic.mpr ⟨p, xs, rfl, upd_same, by simp [lx], r2.mono s4⟩)
end
def look (ks : List Key) (ds : List D) (k : Key) : Option D := ((ks.zip ds).find? fun kv => decide (kv.1 = k)).map (·.2)
def asKey : D → R Key
  | .int i => .ok (.inl i)
  | .str z => .ok (.inr z)
  | _ => .bad
theorem look_ok {K : PySem.W.Frag} {F : Hp} (k : Key) : ∀ {ks : List Key} {xs : List V} {ds : List D}, ks.length = xs.length → Rps K F xs ds → (∀ d, look ks ds k = some d → ∃ v, valV (ks.zip xs) k = some v ∧ Rp K F v d) ∧ (look ks ds k = none → valV (ks.zip xs) k = none)
  | [], xs, ds, _, _ => ⟨fun d h => by simp [look] at h, fun _ => by simp [valV]⟩
  | k' :: ks, [], ds, h, _ => by simp at h
  | k' :: ks, x :: xs, [], h, r => by have := r.length; simp at this
  | k' :: ks, x :: xs, d :: ds, h, r => by
    obtain ⟨y, ys, e, r1, r2⟩ := r.of_cons
    cases e
    have ih := look_ok (F := F) k (ks := ks) (xs := xs) (ds := ds) (by simpa using h) r2
    by_cases hk : k' = k
    · subst hk
      refine ⟨fun d' hd => ?_, fun hn => ?_⟩
      · simp [look] at hd
        subst hd
        exact ⟨x, valV_pos rfl, r1⟩
      · simp [look] at hn
    · have e1 : look (k' :: ks) (d :: ds) k = look ks ds k := by simp [look, List.find?_cons, hk]
      rw [e1, List.zip_cons_cons, valV_neg (p := (k', x)) hk]
      exact ih
/-- d.get(k, x) -/
def dGet (d k x : D) : R D := match d with
  | .dic ks ds => asKey k >>= fun k => .ok ((look ks ds k).getD x)
  | _ => .bad
theorem asKey_ok {K : PySem.W.Frag} {F : Hp} {v : V} {d : D} {k : Key} (r : Rp K F v d) (h : asKey d = .ok k) : v = kV k := by
  cases d <;> first | (cases h; done) | skip
  · cases h; exact rp_int.mp r
  · cases h; exact rp_str.mp r
section
variable {X : Cx} {o e f : Expr} {td ty tx : TE} {fd fk fx : En → R D} {apos cpos : Pos}
theorem pd_dget2 (hu : X.A.units + 1 < cLine) (ho : PD X o td fd) (he : PD X e ty fk) (hf : PD X f tx fx) (m : M2 X o "get" apos e f cpos := by exact ⟨rfl, rfl, rfl, rfl⟩) :
    PD X (.Call (.Attribute o "get" apos) [e, f] [] cpos) (tDGet2 td ty tx) (fun ρ => fd ρ >>= fun d => fk ρ >>= fun k => fx ρ >>= fun x => dGet d k x) := by
  refine ⟨pe_dget2 hu ho.pe he.pe hf.pe m, fun W F0 σ ρ F H d Q o' e1 q => ?_⟩
  obtain ⟨dd, e2, e3⟩ := R.of_bind e1
  obtain ⟨dk, e4, e5⟩ := R.of_bind e3
  obtain ⟨dx, e6, e7⟩ := R.of_bind e5
  refine ho.de W F0 σ ρ F H dd _ o' e2 fun v F1 H1 o1 s1 r1 => ?_
  cases dd <;> first | (cases e7; done) | skip
  obtain ⟨k, e8, e9⟩ := R.of_bind e7
  cases e9
  rename_i ks ds
  obtain ⟨a, xs, rfl, ha, hl, r⟩ := rp_dic.mp r1
  refine ⟨a, rfl, .inl ⟨_, .inl (o1.sub _ _ ha)⟩, ?_⟩
  refine he.de W F0 σ ρ F1 H1 dk _ o1 e4 fun w F2 H2 o2 s2 r2 => ?_
  refine hf.de W F0 σ ρ F2 H2 dx _ o2 e6 fun x F3 H3 o3 s3 r3 => ?_
  have hk := asKey_ok r2 e8
  subst hk
  have ha3 : H3 a = some (.dK (ks.zip xs)) := o3.sub _ _ (s3 _ _ (s2 _ _ ha))
  refine ⟨valV (ks.zip xs) k, DGet.k ha3, ?_⟩
  obtain ⟨g1, g2⟩ := look_ok k hl ((r.mono s2).mono s3)
  refine q _ F3 H3 o3 ((s1.trans s2).trans s3) ?_
  cases hlk : look ks ds k with
  | none => rw [g2 hlk]; exact r3
  | some d =>
    obtain ⟨v, hv, rv⟩ := g1 d hlk
    rw [hv]; exact rv
end
end DD

namespace DD
open PySem PySem.Spec PyProof.Rows L2

/-! ### a list, a tuple or a text, walked -/
def SK.It (K : PySem.W.Frag) : SK → L2.It
  | .l a => Itl K a
  | .t a => Itt K a
  | .s z => Its z
def iAny (K : PySem.W.Frag) (tl : TE) : TI := fun σ H R => tl σ H fun x H1 => ∃ (k : SK) (xs : List V), k.Of x ∧ k.Has K H1 xs ∧ R (k.It K) H1
section
variable {X : Cx} {tg l : Expr} {tl : TE} {f : En → R D}
theorem pi_any (hl : PE X l tl) : PI X tg l (iAny X.K tl) := by
  refine ⟨fun pins s σ H R I h => ?_⟩
  refine thn (hl.run pins s σ H _ I h) fun v s1 ⟨x, H1, I1, r1, q1⟩ => ?_
  obtain ⟨k, xs, ok, hh, q⟩ := q1
  cases k with
  | l a =>
    have e : x = .ref a := ok
    subst e
    cases r1
    obtain ⟨its, rv, p, hz⟩ := I1.list hh
    refine wpAny_pyIter_list p.isList ?_
    refine ⟨s1.heap.objs.size, [s1.heap.objs.size], _, _, H1, rfl, I1.kept (t' := s1.toks) fun b o e => Heap.get?_push_of_some _ e, turn_list a _, ⟨_, Heap.get?_push_size _ rfl, rfl, rfl⟩, fun b hb => ?_, q⟩
    have e : b = s1.heap.objs.size := by simpa using hb
    subst e
    exact I1.fpOk (Nat.le_refl _) (I1.hok.fresh (Nat.le_refl _))
  | t a =>
    have e : x = .ref a := ok
    subst e
    cases r1
    obtain ⟨its, rv, p, hz⟩ := I1.tuple hh
    refine wpAny_pyIter_tuple (show s1.heap.IsTuple a its.toArray from p) ?_
    refine ⟨s1.heap.objs.size, [s1.heap.objs.size], _, _, H1, rfl, I1.kept (t' := s1.toks) fun b o e => Heap.get?_push_of_some _ e, turn_tuple a _, ⟨_, Heap.get?_push_size _ rfl, rfl, rfl⟩, fun b hb => ?_, q⟩
    have e : b = s1.heap.objs.size := by simpa using hb
    subst e
    exact I1.fpOk (Nat.le_refl _) (I1.hok.fresh (Nat.le_refl _))
  | s z =>
    have e : x = .str z := ok
    subst e
    obtain ⟨t, rfl⟩ := r1
    cases ha : z.cps.all (· < 128)
    · exact wpAny_pyIter_wide ha (pi_one (tk := s1.toks) I1 _ (turn_str _ z t "str_iterator" (.inr rfl)) ⟨_, Heap.get?_push_size _ rfl, rfl, rfl⟩ q)
    · exact wpAny_pyIter_ascii ha (pi_one (tk := s1.toks) I1 _ (turn_str _ z t "str_ascii_iterator" (.inl rfl)) ⟨_, Heap.get?_push_size _ rfl, rfl, rfl⟩ q)
/-- whatever sequence it is -/
theorem pid_any (h : PD X l tl f) : PID X tg l (iAny X.K tl) (fun ρ => f ρ >>= items) := by
  refine ⟨pi_any h.pe, fun W F0 σ ρ F H ds Rk o e q => ?_⟩
  obtain ⟨d, e1, e2⟩ := R.of_bind e
  refine h.de W F0 σ ρ F H d _ o e1 fun v F1 H1 o1 s1 r1 => ?_
  cases d <;> first | (cases e2; done) | skip
  · cases e2
    rename_i z
    refine ⟨.s z, _, rp_str.mp r1, rfl, q _ F1 H1 o1 s1 fun F2 H2 s2 s3 i => ⟨fun hi => ?_, fun d hd => ?_⟩⟩
    · show z.cps.size ≤ i
      rw [hi]; simp [chars]
    · have hi : i < z.cps.size := by
        have := (List.getElem?_eq_some_iff.mp hd).1
        simpa [chars] using this
      refine ⟨hi, fun x H3 hy => .inl ⟨hy.1, ?_⟩⟩
      obtain ⟨c, hc, rfl⟩ := hy.2
      unfold chars at hd
      rw [List.getElem?_map, Array.getElem?_toList, hc] at hd
      cases hd
      exact rp_str.mpr rfl
  · cases e2
    obtain ⟨a, xs, rfl, ha, r⟩ := rp_tup.mp r1
    refine ⟨.t a, xs, rfl, Same.seqT o1.sub ha, q _ F1 H1 o1 s1 fun F2 H2 s2 s3 i => ⟨fun hi => ?_, fun d hd => ?_⟩⟩
    · exact ⟨xs, Same.seqT s3 (Same.seqT s2 ha), by rw [r.length, hi]; exact Nat.le_refl _⟩
    · obtain ⟨v, hv, rv⟩ := r.get hd
      refine ⟨⟨xs, v, Same.seqT s3 (Same.seqT s2 ha), hv⟩, fun x H3 hy => .inl ⟨hy.1, ?_⟩⟩
      have e := hy.2 xs (Same.seqT s3 (Same.seqT s2 ha))
      rw [hv] at e
      cases e
      exact rv.mono s2
  · cases e2
    obtain ⟨a, xs, rfl, ha, r⟩ := rp_lst.mp r1
    refine ⟨.l a, xs, rfl, SqL.of (o1.sub _ _ ha), q _ F1 H1 o1 s1 fun F2 H2 s2 s3 i => ⟨fun hi => ?_, fun d hd => ?_⟩⟩
    · exact ⟨xs, SqL.of (s3 _ _ (s2 _ _ ha)), by rw [r.length, hi]; exact Nat.le_refl _⟩
    · obtain ⟨v, hv, rv⟩ := r.get hd
      refine ⟨⟨xs, v, SqL.of (s3 _ _ (s2 _ _ ha)), hv⟩, fun x H3 hy => .inl ⟨hy.1, ?_⟩⟩
      have e := hy.2 xs (SqL.of (s3 _ _ (s2 _ _ ha)))
      rw [hv] at e
      cases e
      exact rv.mono s2
  · cases e2
    obtain ⟨a, xs, rfl, ha, r⟩ := rp_rol.mp r1
    refine ⟨.l a, xs, rfl, o1.sub.seq ha, q _ F1 H1 o1 s1 fun F2 H2 s2 s3 i => ⟨fun hi => ?_, fun d hd => ?_⟩⟩
    · exact ⟨xs, s3.seq (s2.seq ha), by rw [r.length, hi]; exact Nat.le_refl _⟩
    · obtain ⟨v, hv, rv⟩ := r.get hd
      refine ⟨⟨xs, v, s3.seq (s2.seq ha), hv⟩, fun x H3 hy => .inl ⟨hy.1, ?_⟩⟩
      have e := hy.2 xs (s3.seq (s2.seq ha))
      rw [hv] at e
      cases e
      exact rv.mono s2
end
/-! a dict of the module, asked -/
def rInKd (K : PySem.W.Frag) (a : Addr) : R2 := fun x y H Q => ∃ (z : Str) (r : Option Value), x = .str z ∧ y = .ref a ∧ PySem.W.nsIn K a z = some r ∧ Q (.bl r.isSome) H
section
variable {X : Cx} {e : Expr} {te : TE} {f : En → R D} {t : List (Str × D)} {a : Addr} {x : Str} {p pos : Pos}
theorem op_inKd {d : Addr} {es : Array DictEntry} {n : Nat} (D : KDict X.K X.w d es n) : OpR X (compareOp .In) (rInKd X.K d) := op_in_kd D
theorem ptd_inK (C : CDict X.K X.w a t) (hm : X.mg x = some (.ref a)) (he : PD X e te f) (hg : Gl X x := by rfl) (hdb : (x == ("__debug__" : Str)) = false := by decide) (hb : behindInMarks .In (.Name x p) = false := by rfl) :
    PTD X (.Compare e [.In] [.Name x p] pos) (tTest (tOp (rInKd X.K a) te (tC (.ref a)))) (tst (fun ρ => f ρ >>= cIn t)) := by
  obtain ⟨es, n, kd⟩ := C.kd
  refine ⟨pt_cmpR (op_inKd kd) he.pe (pe_glob (v := .ref a) hg hm rfl hdb) hb, dt_of fun W F0 σ ρ F H d Q o e1 q => ?_⟩
  obtain ⟨z, e2, e3⟩ := R.of_bind e1
  refine he.de W F0 σ ρ F H z _ o e2 fun v F1 H1 o1 s1 r1 => ?_
  cases z <;> first | (cases e3; done) | skip
  rename_i z
  cases e3
  cases hl : t.lookup z with
  | none => exact ⟨z, none, rp_str.mp r1, rfl, C.no z hl, q _ F1 H1 o1 s1 (rp_bl.mpr (by rw [hl]; rfl))⟩
  | some d =>
    obtain ⟨u, v', h1, h2, h3⟩ := C.at_ z d hl
    exact ⟨z, some u, rp_str.mp r1, rfl, h1, q _ F1 H1 o1 s1 (rp_bl.mpr (by rw [hl]; rfl))⟩
end
/-! -a -/
def dNeg : D → R D
  | .int i => .ok (.int (-i))
  | _ => .bad
theorem pd_neg {X : Cx} {a : Expr} {ta : TE} {fa : En → R D} {pos : Pos} (ha : PD X a ta fa) : PD X (.UnaryOp .USub a pos) (tUn (rU fun i => .int (-i)) ta) (fun ρ => fa ρ >>= dNeg) := by
  refine ⟨pe_un un_neg ha.pe, fun W F0 σ ρ F H d Q o e q => ?_⟩
  obtain ⟨x, e1, e2⟩ := R.of_bind e
  refine ha.de W F0 σ ρ F H x _ o e1 fun v F1 H1 o1 s1 r1 => ?_
  cases x <;> first | (cases e2; done) | skip
  cases e2
  exact ⟨_, rp_int.mp r1, q _ F1 H1 o1 s1 (rp_int.mpr rfl)⟩

/-! ### defs by name -/
/-- a def as the top has laid it -/
def At (K : PySem.W.Frag) (mg : Str → Option Value) (x : Str) (st : Stmt) (ps : List Str) : Prop := ∃ f fd, L2.Fun K x x st f fd ∧ mg x = some (.ref f) ∧ Binds K fd ps []
/-- .. and what it answers -/
def Has (P : Program) (w : World) (K : PySem.W.Frag) (mg : Str → Option Value) (base : Heap) (k : Nat) (x : Str) (ps : List Str) (m : List D → R D) : Prop :=
  ∃ f fd, FnOk P w K mg base CX0 k f fd ps (spD K m) ∧ mg x = some (.ref f) ∧ PySem.W.keepIn K (.ref f) = true ∧ Binds K fd ps []
section
variable {P : Program} {w : World} {K : PySem.W.Frag} {mg : Str → Option Value} {base : Heap}
theorem At.has {x : Str} {st : Stmt} {N ps : List Str} {k : Nat} {g : En → R Out} (A : At K mg x st ps) (S : FnScope N ps (defScope st))
    (hbody : ∀ (f : Addr) (cdv : Value) (A : Around) (outer : List Env) (s : Shared) (H : Hp) (E : XK), Room k (A.deeper (envOfC x (defScope st) s.heap.objs.size f cdv)) →
      ∃ t, PSsD (cxOf CX0 P w K mg base N x (defScope st) f cdv A outer s H E).nox (defBody st) t g) : Has P w K mg base (k + 1) x ps (runD ps.length (N.length - ps.length) g) := by
  obtain ⟨f, fd, F, hm, b⟩ := A
  exact ⟨f, fd, Fun.okD F S fun cdv A outer s H E hr => hbody f cdv A outer s H E hr, hm, F.kp, b⟩
theorem Has.mono {x : Str} {ps : List Str} {j k : Nat} {m : List D → R D} (h : Has P w K mg base j x ps m) (hk : j ≤ k) : Has P w K mg base k x ps m := by
  obtain ⟨f, fd, G, r⟩ := h
  exact ⟨f, fd, G.mono hk, r⟩
/-- nothing is asked -/
theorem At.none {x : Str} {st : Stmt} {ps : List Str} {k : Nat} (A : At K mg x st ps) : Has P w K mg base k x ps (fun _ => .bad) := by
  obtain ⟨f, fd, F, hm, b⟩ := A
  have no : ∀ vs H Q E, ¬ spD K (fun _ => .bad) vs H Q E := fun vs H Q E h => by
    obtain ⟨_, _, _, _, _, e, _⟩ := h
    cases e
  exact ⟨f, fd, ⟨fun vs H Q E h => absurd h (no vs H Q E), fun A outer s H args us vs Q E _ _ _ _ h => absurd h (no vs H Q E)⟩, hm, F.kp, b⟩
end
section
variable {X : Cx} {j k : Nat} {ps : List Str} {m : List D → R D} {x : Str} {p pos : Pos} {e : Expr} {es : List Expr} {t : TA} {fa : En → R (List D)}
theorem pd_callH (h : Has X.prog X.w X.K X.mg X.base j x ps m) (hr : Room k X.A) (ha : PAD X (e :: es) t fa) (hj : j ≤ k := by decide) (hg : Gl X x := by rfl)
    (hdb : (x == ("__debug__" : Str)) = false := by decide) (he : starEach (e :: es) X.env = (false, eval e X.env) :: starEach es X.env := by rfl) (hpl : (backTo pos (starEach es X.env)).any (·.1) = false := by rfl) :
    PD X (.Call (.Name x p) (e :: es) [] pos) (tCall (spD X.K m) [] E0 t) (eCall m fa) := by
  obtain ⟨f, fd, G, hm, hk, hb⟩ := h
  exact pd_call G (hr.mono hj) hm hk hb ha hg hdb he hpl
end
end DD
namespace DD
open PySem PySem.Spec PyProof.Rows L2
/-! ### a written dict's entries -/
def Ents (P : Params) : List DictEntry → List (Str × Value) → Prop
  | [], [] => True
  | e :: r, (x, v) :: s => (∃ t, e.key = .str x t) ∧ e.hash = PyData.keyHash P x ∧ e.val = v ∧ Ents P r s
  | _, _ => False
def EntsD : List (Str × D) → List (Str × Value) → Prop
  | [], [] => True
  | (x, d) :: r, (y, u) :: s => x = y ∧ (∃ v, RelV v u ∧ ∀ (K : PySem.W.Frag) (F : Hp), Rp K F v d) ∧ EntsD r s
  | _, _ => False
theorem Ents.lit {P : Params} : ∀ {es : List DictEntry} {tv : List (Str × Value)}, Ents P es tv → PySem.W.KeysLit P es
  | [], [], _ => trivial
  | [], _ :: _, h => h.elim
  | _ :: _, [], h => h.elim
  | e :: r, (x, v) :: s, ⟨⟨t, hk⟩, hh, _, hr⟩ => ⟨⟨x, t, hk, hh⟩, hr.lit⟩
theorem Ents.find {P : Params} (z : Str) : ∀ {es : List DictEntry} {tv : List (Str × Value)}, Ents P es tv → (es.find? fun e => e.key.isStr z).map (·.val) = tv.lookup z ∧ es.any (·.refKey) = false
  | [], [], _ => ⟨rfl, rfl⟩
  | [], _ :: _, h => h.elim
  | _ :: _, [], h => h.elim
  | e :: r, (x, v) :: s, ⟨⟨t, hk⟩, hh, hv, hr⟩ => by
    obtain ⟨h1, h2⟩ := hr.find z
    have ek : e.key.isStr z = (x == z) := by rw [hk] <;> rfl
    have er : e.refKey = false := by unfold DictEntry.refKey; rw [hk] <;> rfl
    refine ⟨?_, by rw [List.any_cons, er, h2]; rfl⟩
    rw [List.find?_cons, ek]
    by_cases c : x = z
    · subst c; simp [hv]
    · have c1 : (x == z) = false := by simpa using c
      have c2 : (z == x) = false := by simpa using fun e => c e.symm
      rw [c1, List.lookup_cons, c2]
      exact h1
theorem nsIn_ents {K : PySem.W.Frag} {P : Params} {a : Addr} {es : Array DictEntry} {n : Nat} {tv : List (Str × Value)} (h : K.lookup a = some ⟨.type "dict", none, .dict es n, #[]⟩) (e : Ents P es.toList tv) (z : Str) : PySem.W.nsIn K a z = some (tv.lookup z) := by
  obtain ⟨h1, h2⟩ := e.find z
  unfold PySem.W.nsIn
  rw [h]
  show (match es.toList.find? (·.key.isStr z) with
    | some e => some (some e.val)
    | none => if es.toList.any (·.refKey) then none else some none) = _
  rw [← h1]
  cases es.toList.find? fun e => e.key.isStr z with
  | some e => rfl
  | none => rw [h2]; rfl
theorem entsD_at : ∀ {t : List (Str × D)} {tv : List (Str × Value)}, EntsD t tv → ∀ z, (∀ d, t.lookup z = some d → ∃ u v, tv.lookup z = some u ∧ RelV v u ∧ ∀ (K : PySem.W.Frag) (F : Hp), Rp K F v d) ∧ (t.lookup z = none → tv.lookup z = none)
  | [], [], _, z => ⟨fun d h => (by cases h), fun _ => rfl⟩
  | [], _ :: _, h, _ => h.elim
  | _ :: _, [], h, _ => h.elim
  | (x, d) :: r, (y, u) :: s, ⟨e, ⟨v, hv, hd⟩, hr⟩, z => by
    subst e
    have ih := entsD_at hr z
    rw [List.lookup_cons, List.lookup_cons]
    cases c : z == x with
    | true =>
      refine ⟨fun d' h => ?_, fun h => ?_⟩
      · cases h
        exact ⟨u, v, rfl, hv, hd⟩
      · cases h
    | false => exact ih
theorem cdict_of {K : PySem.W.Frag} {w : World} {a : Addr} {es : Array DictEntry} {n : Nat} {t : List (Str × D)} {tv : List (Str × Value)} (h : K.lookup a = some ⟨.type "dict", none, .dict es n, #[]⟩) (lo : (a == sysModules) = false) (e : Ents w.params es.toList tv) (d : EntsD t tv) : CDict K w a t :=
  ⟨⟨es, n, h, e.lit, lo⟩, fun z x hx => by
    obtain ⟨u, v, h1, h2, h3⟩ := (entsD_at d z).1 x hx
    exact ⟨u, v, by rw [nsIn_ents h e, h1], h2, h3 K⟩, fun z hz => by rw [nsIn_ents h e, (entsD_at d z).2 hz]⟩
theorem rps_of_ints {K : PySem.W.Frag} {F : Hp} : ∀ ns : List Int, Rps K F (ns.map V.int) (ns.map D.int)
  | [] => .nil
  | n :: ns => .cons (rp_int.mpr rfl) (rps_of_ints ns)
end DD

namespace K32
open PySem PySem.Spec PyProof.Rows L2 DD
/-! ### the text by places -/
def topS (i : Nat) : Stmt := PySem.Challenge.pw_partychoices_k32_lines_of_the_log.main.body.getD i (.Pass ⟨0, 0, 0, 0⟩)
abbrev s_is_name : Stmt := topS 3
abbrev N_is_name : List Str := ["text", "sign"]
abbrev s__is_number : Stmt := topS 8
abbrev N__is_number : List Str := ["word", "sign"]
abbrev s__plain_parts : Stmt := topS 9
abbrev N__plain_parts : List Str := ["words", "form", "parts", "sign", "word"]
abbrev s__kept_parts : Stmt := topS 10
abbrev N__kept_parts : List Str := ["words", "counts", "labels", "word", "count", "label"]
abbrev s_read_line : Stmt := topS 11
abbrev N_read_line : List Str := ["line", "words"]
abbrev s_line_of : Stmt := topS 12
abbrev N_line_of : List Str := ["parts", "counts", "labels", "count", "name", "result", "part"]
abbrev s_kept_text : Stmt := topS 13
abbrev N_kept_text : List Str := ["cases", "case", "counts", "word"]
abbrev s__law_same : Stmt := topS 15
abbrev N__law_same : List Str := ["one", "other", "k"]
abbrev s__law_cell : Stmt := topS 16
abbrev N__law_cell : List Str := ["script", "k"]
abbrev s__law_draws : Stmt := topS 17
abbrev N__law_draws : List Str := ["cell", "count", "found", "rest", "k", "one"]
abbrev s__law_name : Stmt := topS 18
abbrev N__law_name : List Str := ["number", "salt", "letters", "rest", "name", "k"]
abbrev s__law_integer : Stmt := topS 19
abbrev N__law_integer : List Str := ["draws", "kind"]
abbrev s__law_word : Stmt := topS 20
abbrev N__law_word : List Str := ["draws"]
abbrev s__law_kept : Stmt := topS 21
abbrev N__law_kept : List Str := ["draws", "counts", "word", "k"]
abbrev s__law_parts : Stmt := topS 22
abbrev N__law_parts : List Str := ["kind", "draws", "numbers", "names", "kept", "k"]
abbrev s__law_line : Stmt := topS 23
abbrev N__law_line : List Str := ["parts", "line", "label", "part", "count"]
abbrev s__law_number : Stmt := topS 24
abbrev N__law_number : List Str := ["word", "sign"]
abbrev s__law_is_name : Stmt := topS 25
abbrev N__law_is_name : List Str := ["word", "sign"]
abbrev s__law_read_kept : Stmt := topS 26
abbrev N__law_read_kept : List Str := ["words", "counts", "labels", "word", "label"]
abbrev s__law_read : Stmt := topS 27
abbrev N__law_read : List Str := ["line", "words", "kinds", "form", "parts", "k", "part"]
abbrev s__law_signs_changed : Stmt := topS 28
abbrev N__law_signs_changed : List Str := ["line", "draws", "signs", "sign", "at", "kind"]
abbrev s__law_words_changed : Stmt := topS 29
abbrev N__law_words_changed : List Str := ["line", "draws", "words", "i", "j", "kind", "word"]
abbrev s_law : Stmt := topS 30
abbrev N_law : List Str := ["script", "k", "draws", "cases", "lines", "parts", "line", "changed", "other", "due", "t"]
def c_FORMS : List (Str × D) := [("start", .str "n"), ("take", .str "nwnnwn"), ("done", .str "nwnnw"), ("undone", .str "nw")]
/-! ### each def as a plain function of data -/
def b_is_name : En → R Out := (sRet (vAnd (eChain dLt dLe (eC (.int 0)) (eCall dLen (eCons (eVar 0) eNil)) (eC (.int 12))) (eCall dAll (eComp (fun ρ => (eVar 0) ρ >>= items) [1] (tgN 1) bYes (eBin dIn (eVar 1) (eC (.str "abcdefghijklmnopqrstuvwxyz")))))))
def m_is_name : List D → R D := runD 1 1 b_is_name
def b__is_number : En → R Out := (sSeq (sIf (bOr (bNot (tst (eChain dLt dLe (eC (.int 0)) (eCall dLen (eCons (eVar 0) eNil)) (eC (.int 12))))) (tst (eCall dAny (eComp (fun ρ => (eVar 0) ρ >>= items) [1] (tgN 1) bYes (eBin dNotIn (eVar 1) (eC (.str "0123456789"))))))) (sRet (eC (.bl false))) sNext)
    (sRet (vOr (eBin dEq (eVar 0) (eC (.str "0"))) (eBin dNe (eBin dIx (eVar 0) (eC (.int 0))) (eC (.str "0"))))))
def m__is_number : List D → R D := runD 1 1 b__is_number
def b__plain_parts_0 : En → R Out := (sIf (bAnd (tst (eBin dEq (eVar 3) (eC (.str "n")))) (fun ρ => (eCall m__is_number (eCons (eVar 4) eNil)) ρ >>= truD)) (sApp 2 (eCall dInt (eCons (eVar 4) eNil))) (sIf (bAnd (tst (eBin dEq (eVar 3) (eC (.str "w")))) (fun ρ => (eCall m_is_name (eCons (eVar 4) eNil)) ρ >>= truD)) (sApp 2 (eVar 4)) (sRet (eC .non))))
def b__plain_parts : En → R Out := (sSeq (sSet 1 (fun ρ => (eBin dIx (eVar 0) (eC (.int 0))) ρ >>= cAt c_FORMS))
    (sSeq (sIf (tst (eBin dNe (eCall dLen (eCons (eVar 0) eNil)) (eBin dAdd (eCall dLen (eCons (eVar 1) eNil)) (eC (.int 1))))) (sRet (eC .non)) sNext)
    (sSeq (sSetO 2 (eLst (eCons (eBin dIx (eVar 0) (eC (.int 0))) eNil)))
    (sSeq (sFor (fun ρ => (eCons (eVar 1) (eCons (eSl (eVar 0) (oSome (eC (.int 1))) oNone) eNil)) ρ >>= dZip) (tgT 2 (tgsCons (tgN 3) (tgsCons (tgN 4) tgsNil))) (b__plain_parts_0))
    (sRet (eCall dTupL (eOwn 2)))))))
def m__plain_parts : List D → R D := runD 1 4 b__plain_parts
def b__kept_parts : En → R Out := (sSeq (sIf (bOr (tst (eBin dLt (eCall dLen (eCons (eVar 0) eNil)) (eC (.int 3)))) (bNot (fun ρ => (eCall m__is_number (eCons (eBin dIx (eVar 0) (eC (.int 1))) eNil)) ρ >>= truD))) (sRet (eC .non)) sNext)
    (sSeq (sSet 1 (toLst (fun ρ => (eBin dIx (eVar 0) (eC (.int 2))) ρ >>= fun x => (eC (.str ",")) ρ >>= fun y => dSplit x y)))
    (sSeq (sSet 2 (toLst (eComp (fun ρ => (eSl (eVar 0) (oSome (eC (.int 3))) oNone) ρ >>= items) [3] (tgN 3) bYes (eCall dTupL (fun ρ => (eVar 3) ρ >>= fun x => (eC (.str ".")) ρ >>= fun y => dSplit x y)))))
    (sSeq (sIf (bNot (tst (eCall dAll (eComp (fun ρ => (eVar 1) ρ >>= items) [4] (tgN 4) bYes (eCall m__is_number (eCons (eVar 4) eNil)))))) (sRet (eC .non)) sNext)
    (sSeq (sIf (bNot (tst (eCall dAll (eComp (fun ρ => (eVar 2) ρ >>= items) [5] (tgN 5) bYes (vAnd (eBin dEq (eCall dLen (eCons (eVar 5) eNil)) (eC (.int 2))) (vAnd (eCall m_is_name (eCons (eBin dIx (eVar 5) (eC (.int 0))) eNil)) (eCall m_is_name (eCons (eBin dIx (eVar 5) (eC (.int 1))) eNil)))))))) (sRet (eC .non)) sNext)
    (sRet (eTup (eCons (eC (.str "kept")) (eCons (eCall dInt (eCons (eBin dIx (eVar 0) (eC (.int 1))) eNil)) (eCons (eCall dTupL (eComp (fun ρ => (eVar 1) ρ >>= items) [4] (tgN 4) bYes (eCall dInt (eCons (eVar 4) eNil)))) (eCons (eCall dTupL (fun ρ => (eVar 2) ρ >>= ofLst)) eNil)))))))))))
def m__kept_parts : List D → R D := runD 1 5 b__kept_parts
def b_read_line : En → R Out := (sSeq (sSet 1 (toLst (fun ρ => (eVar 0) ρ >>= fun x => (eC (.str " ")) ρ >>= fun y => dSplit x y)))
    (sSeq (sIf (tst (eBin dEq (eBin dIx (eVar 1) (eC (.int 0))) (eC (.str "kept")))) (sRet (eCall m__kept_parts (eCons (eVar 1) eNil))) sNext)
    (sSeq (sIf (tst (fun ρ => (eBin dIx (eVar 1) (eC (.int 0))) ρ >>= cIn c_FORMS)) (sRet (eCall m__plain_parts (eCons (eVar 1) eNil))) sNext)
    (sRet (eC .non)))))
def m_read_line : List D → R D := runD 1 1 b_read_line
def b_line_of : En → R Out := (sSeq (sIf (tst (eBin dNe (eBin dIx (eVar 0) (eC (.int 0))) (eC (.str "kept")))) (sRet (fun ρ => (eC (.str " ")) ρ >>= fun x => (eComp (fun ρ => (eVar 0) ρ >>= items) [6] (tgN 6) bYes (eCall dStr (eCons (eVar 6) eNil))) ρ >>= fun ds => dJoin x ds)) sNext)
    (sSeq (sSet 1 (fun ρ => (eC (.str ",")) ρ >>= fun x => (eComp (fun ρ => (eBin dIx (eVar 0) (eC (.int 2))) ρ >>= items) [3] (tgN 3) bYes (eCall dStr (eCons (eVar 3) eNil))) ρ >>= fun ds => dJoin x ds))
    (sSeq (sSet 2 (toLst (eComp (fun ρ => (eBin dIx (eVar 0) (eC (.int 3))) ρ >>= items) [4, 5] (tgT 2 (tgsCons (tgN 4) (tgsCons (tgN 5) tgsNil))) bYes (fun ρ => eJs [(fun ρ => (eVar 4) ρ >>= dFmt), (eC (.str ".")), (fun ρ => (eVar 5) ρ >>= dFmt)] Str.empty ρ >>= fun z => .ok (.str z)))))
    (sRet (fun ρ => (eC (.str " ")) ρ >>= fun x => (fun ρ => (eBin dAdd (toLst (eLst (eCons (eC (.str "kept")) (eCons (eCall dStr (eCons (eBin dIx (eVar 0) (eC (.int 1))) eNil)) (eCons (eVar 1) eNil))))) (eVar 2)) ρ >>= ofLst) ρ >>= fun ds => dJoin x ds)))))
def m_line_of : List D → R D := runD 1 6 b_line_of
def b_kept_text : En → R Out := (sRet (fun ρ => (eC (.str "")) ρ >>= fun x => (eComp (fun ρ => (eCons (eVar 0) eNil) ρ >>= dEnum) [1, 2, 3] (tgT 2 (tgsCons (tgN 1) (tgsCons (tgT 2 (tgsCons (tgN 2) (tgsCons (tgN 3) tgsNil))) tgsNil))) bYes (eBin dAdd (eCall m_line_of (eCons (eTup (eCons (eC (.str "kept")) (eCons (eVar 1) (eCons (eVar 2) (eCons (eVar 3) eNil))))) eNil)) (eC (.str "\n")))) ρ >>= fun ds => dJoin x ds))
def m_kept_text : List D → R D := runD 1 3 b_kept_text
def b__law_same (rec : List D → R D) : En → R Out := (sSeq (sIf (bOr (tst (fun ρ => (eVar 0) ρ >>= dIsi "bool")) (tst (fun ρ => (eVar 1) ρ >>= dIsi "bool"))) (sRet (vAnd (fun ρ => (eVar 0) ρ >>= dIsi "bool") (vAnd (fun ρ => (eVar 1) ρ >>= dIsi "bool") (eBin dEq (eVar 0) (eVar 1))))) sNext)
    (sSeq (sIf (tst (fun ρ => (eVar 0) ρ >>= dIsi "int")) (sRet (vAnd (fun ρ => (eVar 1) ρ >>= dIsi "int") (eBin dEq (eVar 0) (eVar 1)))) sNext)
    (sSeq (sIf (tst (fun ρ => (eVar 0) ρ >>= dIsi "str")) (sRet (vAnd (fun ρ => (eVar 1) ρ >>= dIsi "str") (eBin dEq (eVar 0) (eVar 1)))) sNext)
    (sSeq (sIf (tst (fun ρ => (eVar 0) ρ >>= dIsi "tuple")) (sSeq (sIf (bOr (bNot (tst (fun ρ => (eVar 1) ρ >>= dIsi "tuple"))) (tst (eBin dNe (eCall dLen (eCons (eVar 0) eNil)) (eCall dLen (eCons (eVar 1) eNil))))) (sRet (eC (.bl false))) sNext)
    (sRet (eCall dAll (eComp (fun ρ => (eCons (eCall dLen (eCons (eVar 0) eNil)) eNil) ρ >>= dRng1) [2] (tgN 2) bYes (eCall rec (eCons (eBin dIx (eVar 0) (eVar 2)) (eCons (eBin dIx (eVar 1) (eVar 2)) eNil))))))) sNext)
    (sSeq (sIf (tst (fun ρ => (eVar 0) ρ >>= dIsi "list")) (sSeq (sIf (bOr (bNot (tst (fun ρ => (eVar 1) ρ >>= dIsi "list"))) (tst (eBin dNe (eCall dLen (eCons (eVar 0) eNil)) (eCall dLen (eCons (eVar 1) eNil))))) (sRet (eC (.bl false))) sNext)
    (sRet (eCall dAll (eComp (fun ρ => (eCons (eCall dLen (eCons (eVar 0) eNil)) eNil) ρ >>= dRng1) [2] (tgN 2) bYes (eCall rec (eCons (eBin dIx (eVar 0) (eVar 2)) (eCons (eBin dIx (eVar 1) (eVar 2)) eNil))))))) sNext)
    (sRet (vAnd (eBin dIsN (eVar 0) (eC .non)) (eBin dIsN (eVar 1) (eC .non)))))))))
def m__law_same : Nat → List D → R D
  | 0 => fun _ => .bad
  | n + 1 => runD 2 1 (b__law_same (m__law_same n))
def b__law_cell : En → R Out := (sSeq (sIf (tst (eBin dLt (eVar 1) (eCall dLen (eCons (eVar 0) eNil)))) (sRet (eBin dIx (eVar 0) (eVar 1))) sNext)
    (sRet (eC (.int 0))))
def m__law_cell : List D → R D := runD 2 0 b__law_cell
def b__law_draws_0 : En → R Out := (sIf (tst (eBin dGt (eVar 3) (eC (.int 0)))) (sSeq (sApp 2 (eBin dMod (eCall dInt (eCons (eVar 3) eNil)) (eC (.int 1009))))
    (sSet 3 (eBin dFdiv (eVar 3) (eC (.int 1009))))) (sSeq (sSet 5 (eBin dMod (eCall dInt (eCons (eBin dAdd (eBin dMul (eBin dAdd (eCall dAbs (eCons (eVar 0) eNil)) (eC (.int 1))) (eC (.int 48271))) (eBin dMul (eBin dAdd (eVar 4) (eC (.int 1))) (eC (.int 69621)))) eNil)) (eC (.int 2147483647))))
    (sApp 2 (eBin dMod (eBin dFdiv (eBin dMod (eCall dInt (eCons (eBin dAdd (eBin dMul (eVar 5) (eC (.int 16807))) (eBin dMul (eVar 4) (eC (.int 7919)))) eNil)) (eC (.int 2147483629))) (eC (.int 7))) (eC (.int 1009))))))
def b__law_draws : En → R Out := (sSeq (sSetO 2 (eLst eNil))
    (sSeq (sSet 3 (eCall dAbs (eCons (eVar 0) eNil)))
    (sSeq (sIf (tst (eBin dLt (eVar 3) (eBin dPow (eC (.int 10)) (eC (.int 18))))) (sSet 3 (eC (.int 0))) sNext)
    (sSeq (sFor (fun ρ => (eCons (eVar 1) eNil) ρ >>= dRng1) (tgN 4) (b__law_draws_0))
    (sFrz 2 (sRet (eVar 2)))))))
def m__law_draws : List D → R D := runD 2 4 b__law_draws
def b__law_name_0 : En → R Out := (sIf (tst (eBin dGt (eVar 3) (eC (.int 0)))) (sSeq (sSet 4 (eBin dAdd (eBin dIx (eVar 2) (eBin dMod (eCall dInt (eCons (eVar 3) eNil)) (eC (.int 26)))) (eVar 4)))
    (sSet 3 (eBin dFdiv (eVar 3) (eC (.int 26))))) sNext)
def b__law_name : En → R Out := (sSeq (sSet 2 (eC (.str "abcdefghijklmnopqrstuvwxyz")))
    (sSeq (sSet 3 (eBin dAdd (eBin dMul (eVar 1) (eC (.int 64))) (eVar 0)))
    (sSeq (sSet 4 (eBin dIx (eVar 2) (eBin dMod (eCall dInt (eCons (eVar 3) eNil)) (eC (.int 26)))))
    (sSeq (sSet 3 (eBin dFdiv (eVar 3) (eC (.int 26))))
    (sSeq (sFor (fun ρ => (eCons (eC (.int 11)) eNil) ρ >>= dRng1) (tgN 5) (b__law_name_0))
    (sSeq (sIf (tst (eBin dEq (eBin dMod (eCall dInt (eCons (eVar 1) eNil)) (eC (.int 2))) (eC (.int 1)))) (sRet (fun ρ => (eVar 4) ρ >>= dRev)) sNext)
    (sRet (eVar 4))))))))
def m__law_name : List D → R D := runD 2 4 b__law_name
def b__law_integer : En → R Out := (sSeq (sSet 1 (eBin dMod (eCall dInt (eCons (eBin dIx (eVar 0) (eC (.int 0))) eNil)) (eC (.int 6))))
    (sSeq (sIf (tst (eBin dEq (eVar 1) (eC (.int 0)))) (sRet (eBin dIx (eTup (eCons (eC (.int 0)) (eCons (eC (.int 999999999999)) (eCons (eC (.int 10)) (eCons (eC (.int 99999999999)) (eCons (eC (.int 100000000000)) (eCons (eC (.int 9)) eNil))))))) (eBin dMod (eCall dInt (eCons (eBin dIx (eVar 0) (eC (.int 1))) eNil)) (eC (.int 6))))) sNext)
    (sSeq (sIf (tst (eBin dLt (eVar 1) (eC (.int 3)))) (sRet (eBin dMod (eCall dInt (eCons (eBin dIx (eVar 0) (eC (.int 1))) eNil)) (eC (.int 13)))) sNext)
    (sRet (eBin dMod (eCall dInt (eCons (eBin dAdd (eBin dAdd (eBin dAdd (eBin dMul (eBin dIx (eVar 0) (eC (.int 1))) (eBin dPow (eC (.int 1009)) (eC (.int 3)))) (eBin dMul (eBin dIx (eVar 0) (eC (.int 2))) (eBin dPow (eC (.int 1009)) (eC (.int 2))))) (eBin dMul (eBin dIx (eVar 0) (eC (.int 3))) (eC (.int 1009)))) (eBin dIx (eVar 0) (eC (.int 0)))) eNil)) (eBin dPow (eC (.int 10)) (eC (.int 12))))))))
def m__law_integer : List D → R D := runD 1 1 b__law_integer
def b__law_word : En → R Out := (sSeq (sIf (tst (eBin dEq (eBin dMod (eCall dInt (eCons (eBin dIx (eVar 0) (eC (.int 0))) eNil)) (eC (.int 4))) (eC (.int 0)))) (sRet (eCall m__law_name (eCons (eBin dIx (eVar 0) (eC (.int 1))) (eCons (eBin dMul (eBin dAdd (eC (.int 1)) (eBin dIx (eVar 0) (eC (.int 2)))) (eBin dPow (eC (.int 26)) (eC (.int 8)))) eNil)))) sNext)
    (sRet (eCall m__law_name (eCons (eBin dIx (eVar 0) (eC (.int 1))) (eCons (eBin dMul (eBin dMod (eCall dInt (eCons (eBin dIx (eVar 0) (eC (.int 2))) eNil)) (eC (.int 3))) (eCall dInt (eCons (eBin dIx (eVar 0) (eC (.int 0))) eNil))) eNil)))))
def m__law_word : List D → R D := runD 1 0 b__law_word
def b__law_kept_0 : En → R Out := (sApp 2 (eTup (eCons (eCall m__law_word (eCons (eSl (eVar 0) (oSome (eBin dAdd (eC (.int 24)) (eBin dMul (eC (.int 6)) (eVar 3)))) (oSome (eBin dAdd (eC (.int 27)) (eBin dMul (eC (.int 6)) (eVar 3))))) eNil)) (eCons (eCall m__law_word (eCons (eSl (eVar 0) (oSome (eBin dAdd (eC (.int 27)) (eBin dMul (eC (.int 6)) (eVar 3)))) (oSome (eBin dAdd (eC (.int 30)) (eBin dMul (eC (.int 6)) (eVar 3))))) eNil)) eNil))))
def b__law_kept : En → R Out := (sSeq (sSet 1 (eCall dTupL (eComp (fun ρ => (eCons (eBin dAdd (eC (.int 1)) (eBin dMod (eCall dInt (eCons (eBin dIx (eVar 0) (eC (.int 0))) eNil)) (eC (.int 6)))) eNil) ρ >>= dRng1) [3] (tgN 3) bYes (eCall m__law_integer (eCons (eSl (eVar 0) (oSome (eBin dMul (eC (.int 4)) (eVar 3))) (oSome (eBin dAdd (eBin dMul (eC (.int 4)) (eVar 3)) (eC (.int 4))))) eNil)))))
    (sSeq (sSetO 2 (eLst eNil))
    (sSeq (sFor (fun ρ => (eCons (eBin dMod (eCall dInt (eCons (eBin dIx (eVar 0) (eC (.int 1))) eNil)) (eC (.int 13))) eNil) ρ >>= dRng1) (tgN 3) (b__law_kept_0))
    (sRet (eTup (eCons (eVar 1) (eCons (eCall dTupL (eOwn 2)) eNil)))))))
def m__law_kept : List D → R D := runD 1 3 b__law_kept
def b__law_parts : En → R Out := (sSeq (sSet 2 (toLst (eComp (fun ρ => (eCons (eC (.int 4)) eNil) ρ >>= dRng1) [5] (tgN 5) bYes (eCall m__law_integer (eCons (eSl (eVar 1) (oSome (eBin dMul (eC (.int 4)) (eVar 5))) (oSome (eBin dAdd (eBin dMul (eC (.int 4)) (eVar 5)) (eC (.int 4))))) eNil)))))
    (sSeq (sSet 3 (toLst (eComp (fun ρ => (eCons (eC (.int 2)) eNil) ρ >>= dRng1) [5] (tgN 5) bYes (eCall m__law_word (eCons (eSl (eVar 1) (oSome (eBin dAdd (eC (.int 16)) (eBin dMul (eC (.int 3)) (eVar 5)))) (oSome (eBin dAdd (eC (.int 19)) (eBin dMul (eC (.int 3)) (eVar 5))))) eNil)))))
    (sSeq (sIf (tst (eBin dEq (eVar 0) (eC (.int 0)))) (sRet (eTup (eCons (eC (.str "start")) (eCons (eBin dIx (eVar 2) (eC (.int 0))) eNil)))) sNext)
    (sSeq (sIf (tst (eBin dEq (eVar 0) (eC (.int 1)))) (sRet (eTup (eCons (eC (.str "take")) (eCons (eBin dIx (eVar 2) (eC (.int 0))) (eCons (eBin dIx (eVar 3) (eC (.int 0))) (eCons (eBin dIx (eVar 2) (eC (.int 1))) (eCons (eBin dIx (eVar 2) (eC (.int 2))) (eCons (eBin dIx (eVar 3) (eC (.int 1))) (eCons (eBin dIx (eVar 2) (eC (.int 3))) eNil))))))))) sNext)
    (sSeq (sIf (tst (eBin dEq (eVar 0) (eC (.int 2)))) (sRet (eTup (eCons (eC (.str "done")) (eCons (eBin dIx (eVar 2) (eC (.int 0))) (eCons (eBin dIx (eVar 3) (eC (.int 0))) (eCons (eBin dIx (eVar 2) (eC (.int 1))) (eCons (eBin dIx (eVar 2) (eC (.int 2))) (eCons (eBin dIx (eVar 3) (eC (.int 1))) eNil)))))))) sNext)
    (sSeq (sIf (tst (eBin dEq (eVar 0) (eC (.int 3)))) (sRet (eTup (eCons (eC (.str "undone")) (eCons (eBin dIx (eVar 2) (eC (.int 0))) (eCons (eBin dIx (eVar 3) (eC (.int 0))) eNil))))) sNext)
    (sSeq (sSet 4 (eCall m__law_kept (eCons (eVar 1) eNil)))
    (sRet (eTup (eCons (eC (.str "kept")) (eCons (eBin dIx (eVar 2) (eC (.int 3))) (eCons (eBin dIx (eVar 4) (eC (.int 0))) (eCons (eBin dIx (eVar 4) (eC (.int 1))) eNil)))))))))))))
def m__law_parts : List D → R D := runD 2 4 b__law_parts
def b__law_line_0 : En → R Out := (sSet 1 (eBin dAdd (eBin dAdd (eBin dAdd (eBin dAdd (eVar 1) (eC (.str " "))) (eBin dIx (eVar 2) (eC (.int 0)))) (eC (.str "."))) (eBin dIx (eVar 2) (eC (.int 1)))))
def b__law_line : En → R Out := (sSeq (sIf (tst (eBin dNe (eBin dIx (eVar 0) (eC (.int 0))) (eC (.str "kept")))) (sRet (fun ρ => (eC (.str " ")) ρ >>= fun x => (eComp (fun ρ => (eVar 0) ρ >>= items) [3] (tgN 3) bYes (eCall dStr (eCons (eVar 3) eNil))) ρ >>= fun ds => dJoin x ds)) sNext)
    (sSeq (sSet 1 (eBin dAdd (eBin dAdd (eBin dAdd (eC (.str "kept ")) (eCall dStr (eCons (eBin dIx (eVar 0) (eC (.int 1))) eNil))) (eC (.str " "))) (fun ρ => (eC (.str ",")) ρ >>= fun x => (eComp (fun ρ => (eBin dIx (eVar 0) (eC (.int 2))) ρ >>= items) [4] (tgN 4) bYes (eCall dStr (eCons (eVar 4) eNil))) ρ >>= fun ds => dJoin x ds)))
    (sSeq (sFor (fun ρ => (eBin dIx (eVar 0) (eC (.int 3))) ρ >>= items) (tgN 2) (b__law_line_0))
    (sRet (eVar 1)))))
def m__law_line : List D → R D := runD 1 4 b__law_line
def b__law_number : En → R Out := (sSeq (sIf (bOr (tst (eBin dLt (eCall dLen (eCons (eVar 0) eNil)) (eC (.int 1)))) (bOr (tst (eBin dGt (eCall dLen (eCons (eVar 0) eNil)) (eC (.int 12)))) (bNot (tst (eCall dAll (eComp (fun ρ => (eVar 0) ρ >>= items) [1] (tgN 1) bYes (eBin dIn (eVar 1) (eC (.str "0123456789"))))))))) (sRet (fun ρ => (eC (.int 1)) ρ >>= dNeg)) sNext)
    (sSeq (sIf (bAnd (tst (eBin dGt (eCall dLen (eCons (eVar 0) eNil)) (eC (.int 1)))) (tst (eBin dEq (eBin dIx (eVar 0) (eC (.int 0))) (eC (.str "0"))))) (sRet (fun ρ => (eC (.int 1)) ρ >>= dNeg)) sNext)
    (sRet (eCall dInt (eCons (eVar 0) eNil)))))
def m__law_number : List D → R D := runD 1 1 b__law_number
def b__law_is_name : En → R Out := (sRet (vAnd (eBin dLt (eC (.int 0)) (eCall dLen (eCons (eVar 0) eNil))) (vAnd (eBin dLt (eCall dLen (eCons (eVar 0) eNil)) (eC (.int 13))) (eCall dAll (eComp (fun ρ => (eVar 0) ρ >>= items) [1] (tgN 1) bYes (eBin dIn (eVar 1) (eC (.str "abcdefghijklmnopqrstuvwxyz"))))))))
def m__law_is_name : List D → R D := runD 1 1 b__law_is_name
def b__law_read_kept_0 : En → R Out := (sSeq (sSet 4 (toLst (fun ρ => (eVar 3) ρ >>= fun x => (eC (.str ".")) ρ >>= fun y => dSplit x y)))
    (sSeq (sIf (bOr (tst (eBin dNe (eCall dLen (eCons (eVar 4) eNil)) (eC (.int 2)))) (bOr (bNot (fun ρ => (eCall m__law_is_name (eCons (eBin dIx (eVar 4) (eC (.int 0))) eNil)) ρ >>= truD)) (bNot (fun ρ => (eCall m__law_is_name (eCons (eBin dIx (eVar 4) (eC (.int 1))) eNil)) ρ >>= truD)))) (sRet (eC .non)) sNext)
    (sApp 2 (eTup (eCons (eBin dIx (eVar 4) (eC (.int 0))) (eCons (eBin dIx (eVar 4) (eC (.int 1))) eNil))))))
def b__law_read_kept : En → R Out := (sSeq (sIf (bOr (tst (eBin dLt (eCall dLen (eCons (eVar 0) eNil)) (eC (.int 3)))) (tst (eBin dLt (eCall m__law_number (eCons (eBin dIx (eVar 0) (eC (.int 1))) eNil)) (eC (.int 0))))) (sRet (eC .non)) sNext)
    (sSeq (sSet 1 (toLst (eComp (fun ρ => (toLst (fun ρ => (eBin dIx (eVar 0) (eC (.int 2))) ρ >>= fun x => (eC (.str ",")) ρ >>= fun y => dSplit x y)) ρ >>= items) [3] (tgN 3) bYes (eCall m__law_number (eCons (eVar 3) eNil)))))
    (sSeq (sIf (tst (eBin dLt (eCall dMinL (fun ρ => (eVar 1) ρ >>= ofLst)) (eC (.int 0)))) (sRet (eC .non)) sNext)
    (sSeq (sSetO 2 (eLst eNil))
    (sSeq (sFor (fun ρ => (eSl (eVar 0) (oSome (eC (.int 3))) oNone) ρ >>= items) (tgN 3) (b__law_read_kept_0))
    (sRet (eTup (eCons (eC (.str "kept")) (eCons (eCall m__law_number (eCons (eBin dIx (eVar 0) (eC (.int 1))) eNil)) (eCons (eCall dTupL (fun ρ => (eVar 1) ρ >>= ofLst)) (eCons (eCall dTupL (eOwn 2)) eNil)))))))))))
def m__law_read_kept : List D → R D := runD 1 4 b__law_read_kept
def b__law_read_0 : En → R Out := (sSeq (sSet 6 (eBin dIx (eVar 1) (eBin dAdd (eVar 5) (eC (.int 1)))))
    (sSeq (sIf (tst (eBin dEq (eBin dIx (eVar 3) (eVar 5)) (eC (.str "n")))) (sSeq (sSet 6 (eCall m__law_number (eCons (eBin dIx (eVar 1) (eBin dAdd (eVar 5) (eC (.int 1)))) eNil)))
    (sIf (tst (eBin dLt (eVar 6) (eC (.int 0)))) (sRet (eC .non)) sNext)) (sIf (bNot (fun ρ => (eCall m__law_is_name (eCons (eVar 6) eNil)) ρ >>= truD)) (sRet (eC .non)) sNext))
    (sApp 4 (eVar 6))))
def b__law_read : En → R Out := (sSeq (sSet 1 (toLst (fun ρ => (eVar 0) ρ >>= fun x => (eC (.str " ")) ρ >>= fun y => dSplit x y)))
    (sSeq (sIf (tst (eBin dEq (eBin dIx (eVar 1) (eC (.int 0))) (eC (.str "kept")))) (sRet (eCall m__law_read_kept (eCons (eVar 1) eNil))) sNext)
    (sSeq (sSet 2 (eDisp ["start", "take", "done", "undone"] [(eC (.str "n")), (eC (.str "nwnnwn")), (eC (.str "nwnnw")), (eC (.str "nw"))]))
    (sSeq (sSet 3 (fun ρ => (eVar 2) ρ >>= fun d => (eBin dIx (eVar 1) (eC (.int 0))) ρ >>= fun k => (eC (.str "")) ρ >>= fun x => dGet d k x))
    (sSeq (sIf (bOr (tst (eBin dEq (eVar 3) (eC (.str "")))) (tst (eBin dNe (eCall dLen (eCons (eVar 1) eNil)) (eBin dAdd (eCall dLen (eCons (eVar 3) eNil)) (eC (.int 1)))))) (sRet (eC .non)) sNext)
    (sSeq (sSetO 4 (eLst (eCons (eBin dIx (eVar 1) (eC (.int 0))) eNil)))
    (sSeq (sFor (fun ρ => (eCons (eCall dLen (eCons (eVar 3) eNil)) eNil) ρ >>= dRng1) (tgN 5) (b__law_read_0))
    (sRet (eCall dTupL (eOwn 4))))))))))
def m__law_read : List D → R D := runD 1 6 b__law_read
def b__law_signs_changed : En → R Out := (sSeq (sSet 2 (eC (.str " !\"#$&'()*+,-./0123456789:;<=>?@ABCDEFGHIJKLMNOPQRSTUVWXYZ[\\]^_`abcdefghijklmnopqrstuvwxyz{|}~")))
    (sSeq (sSet 3 (eBin dIx (eVar 2) (eBin dMod (eCall dInt (eCons (eBin dIx (eVar 1) (eC (.int 0))) eNil)) (eCall dLen (eCons (eVar 2) eNil)))))
    (sSeq (sIf (tst (eBin dGt (eBin dMod (eCall dInt (eCons (eBin dIx (eVar 1) (eC (.int 1))) eNil)) (eC (.int 3))) (eC (.int 0)))) (sSet 3 (eBin dIx (eC (.str " 0.,1a")) (eBin dMod (eCall dInt (eCons (eBin dIx (eVar 1) (eC (.int 0))) eNil)) (eC (.int 6))))) sNext)
    (sSeq (sSet 4 (eBin dMod (eCall dInt (eCons (eBin dIx (eVar 1) (eC (.int 2))) eNil)) (eBin dAdd (eCall dLen (eCons (eVar 0) eNil)) (eC (.int 1)))))
    (sSeq (sSet 5 (eBin dMod (eCall dInt (eCons (eBin dIx (eVar 1) (eC (.int 3))) eNil)) (eC (.int 5))))
    (sSeq (sIf (bOr (tst (eBin dEq (eVar 5) (eC (.int 0)))) (tst (eBin dEq (eVar 4) (eCall dLen (eCons (eVar 0) eNil))))) (sRet (eBin dAdd (eBin dAdd (eSl (eVar 0) oNone (oSome (eVar 4))) (eVar 3)) (eSl (eVar 0) (oSome (eVar 4)) oNone))) sNext)
    (sSeq (sIf (tst (eBin dEq (eVar 5) (eC (.int 1)))) (sRet (eBin dAdd (eSl (eVar 0) oNone (oSome (eVar 4))) (eSl (eVar 0) (oSome (eBin dAdd (eVar 4) (eC (.int 1)))) oNone))) sNext)
    (sSeq (sIf (tst (eBin dEq (eVar 5) (eC (.int 2)))) (sRet (eBin dAdd (eBin dAdd (eSl (eVar 0) oNone (oSome (eVar 4))) (eBin dIx (eVar 0) (eVar 4))) (eSl (eVar 0) (oSome (eVar 4)) oNone))) sNext)
    (sSeq (sIf (tst (eBin dEq (eVar 5) (eC (.int 3)))) (sRet (eBin dAdd (eBin dAdd (eSl (eVar 0) oNone (oSome (eVar 4))) (eVar 3)) (eSl (eVar 0) (oSome (eBin dAdd (eVar 4) (eC (.int 1)))) oNone))) sNext)
    (sRet (eBin dAdd (eBin dAdd (eBin dAdd (eSl (eVar 0) oNone (oSome (eVar 4))) (eSl (eVar 0) (oSome (eBin dAdd (eVar 4) (eC (.int 1)))) (oSome (eBin dAdd (eVar 4) (eC (.int 2)))))) (eBin dIx (eVar 0) (eVar 4))) (eSl (eVar 0) (oSome (eBin dAdd (eVar 4) (eC (.int 2)))) oNone))))))))))))
def m__law_signs_changed : List D → R D := runD 2 4 b__law_signs_changed
def b__law_words_changed : En → R Out := (sSeq (sSetO 2 (fun ρ => (eVar 0) ρ >>= fun x => (eC (.str " ")) ρ >>= fun y => dSplit x y))
    (sSeq (sSet 3 (eBin dMod (eCall dInt (eCons (eBin dIx (eVar 1) (eC (.int 0))) eNil)) (eCall dLenL (eOwn 2))))
    (sSeq (sSet 4 (eBin dMod (eCall dInt (eCons (eBin dIx (eVar 1) (eC (.int 1))) eNil)) (eCall dLenL (eOwn 2))))
    (sSeq (sSet 5 (eBin dMod (eCall dInt (eCons (eBin dIx (eVar 1) (eC (.int 2))) eNil)) (eC (.int 3))))
    (sSeq (sIf (tst (eBin dEq (eVar 5) (eC (.int 0)))) (sSeq (sSet 6 (eIxO (eOwn 2) (eVar 3)))
    (sSeq (sPut 2 (eVar 3) (eIxO (eOwn 2) (eVar 4)))
    (sPut 2 (eVar 4) (eVar 6)))) (sIf (tst (eBin dEq (eVar 5) (eC (.int 1)))) (sSetO 2 (eCat (eSlL (eOwn 2) oNone (oSome (eVar 3))) (eSlL (eOwn 2) (oSome (eBin dAdd (eVar 3) (eC (.int 1)))) oNone))) (sIns 2 (eVar 4) (eIxO (eOwn 2) (eVar 3)))))
    (sRet (fun ρ => (eC (.str " ")) ρ >>= fun x => (eOwn 2) ρ >>= fun ds => dJoin x ds)))))))
def m__law_words_changed : List D → R D := runD 2 5 b__law_words_changed
def b_law_0 : En → R Out := (sSeq (sSet 9 (eCall m__law_read (eCons (eVar 8) eNil)))
    (sSeq (sIf (bNot (fun ρ => (eCall (m__law_same 12) (eCons (eVar 9) (eCons (eCall m_read_line (eCons (eVar 8) eNil)) eNil))) ρ >>= truD)) (sRet (eC (.bl false))) sNext)
    (sIf (bAnd (tst (eBin dNotN (eVar 9) (eC .non))) (bNot (fun ρ => (eCall (m__law_same 12) (eCons (eVar 8) (eCons (eCall m_line_of (eCons (eVar 9) eNil)) eNil))) ρ >>= truD))) (sRet (eC (.bl false))) sNext)))
def b_law_1 : En → R Out := (sSeq (sSet 2 (eCall m__law_draws (eCons (eBin dAdd (eCall m__law_cell (eCons (eVar 0) (eCons (eVar 1) eNil))) (eBin dMul (eC (.int 7919)) (eVar 1))) (eCons (eC (.int 130)) eNil))))
    (sSeq (sSet 5 (eCall m__law_parts (eCons (eBin dMod (eCall dInt (eCons (eVar 1) eNil)) (eC (.int 5))) (eCons (eVar 2) eNil))))
    (sSeq (sSet 6 (eCall m__law_line (eCons (eVar 5) eNil)))
    (sSeq (sIf (bOr (bNot (fun ρ => (eCall (m__law_same 12) (eCons (eVar 6) (eCons (eCall m_line_of (eCons (eVar 5) eNil)) eNil))) ρ >>= truD)) (bNot (fun ρ => (eCall (m__law_same 12) (eCons (eVar 5) (eCons (eCall m_read_line (eCons (eVar 6) eNil)) eNil))) ρ >>= truD))) (sRet (eC (.bl false))) sNext)
    (sSeq (sSet 7 (toLst (eComp (fun ρ => (eCons (eC (.int 4)) eNil) ρ >>= dRng1) [10] (tgN 10) bYes (eCall m__law_signs_changed (eCons (eVar 6) (eCons (eSl (eVar 2) (oSome (eBin dAdd (eC (.int 102)) (eBin dMul (eC (.int 4)) (eVar 10)))) (oSome (eBin dAdd (eC (.int 106)) (eBin dMul (eC (.int 4)) (eVar 10))))) eNil))))))
    (sSeq (sSet 7 (eBin dAdd (eVar 7) (toLst (eComp (fun ρ => (eCons (eC (.int 2)) eNil) ρ >>= dRng1) [10] (tgN 10) bYes (eCall m__law_words_changed (eCons (eVar 6) (eCons (eSl (eVar 2) (oSome (eBin dAdd (eC (.int 118)) (eBin dMul (eC (.int 3)) (eVar 10)))) (oSome (eBin dAdd (eC (.int 121)) (eBin dMul (eC (.int 3)) (eVar 10))))) eNil)))))))
    (sFor (fun ρ => (eBin dAdd (eVar 7) (toLst (eLst (eCons (eBin dAdd (eVar 6) (eC (.str " "))) (eCons (eBin dAdd (eC (.str " ")) (eVar 6)) eNil))))) ρ >>= items) (tgN 8) (b_law_0))))))))
def b_law : En → R Out := (sSeq (sFor (fun ρ => (eCons (eC (.int 10)) eNil) ρ >>= dRng1) (tgN 1) (b_law_1))
    (sSeq (sSet 2 (eCall m__law_draws (eCons (eCall m__law_cell (eCons (eVar 0) (eCons (eC (.int 10)) eNil))) (eCons (eC (.int 420)) eNil))))
    (sSeq (sSet 3 (eCall dTupL (eComp (fun ρ => (eCons (eBin dMod (eCall dInt (eCons (eBin dIx (eVar 2) (eC (.int 0))) eNil)) (eC (.int 5))) eNil) ρ >>= dRng1) [1] (tgN 1) bYes (eCall m__law_kept (eCons (eSl (eVar 2) (oSome (eBin dAdd (eC (.int 4)) (eBin dMul (eC (.int 102)) (eVar 1)))) (oSome (eBin dAdd (eC (.int 106)) (eBin dMul (eC (.int 102)) (eVar 1))))) eNil)))))
    (sSeq (sIf (bAnd (tst (eBin dEq (eBin dMod (eCall dInt (eCons (eBin dIx (eVar 2) (eC (.int 1))) eNil)) (eC (.int 4))) (eC (.int 0)))) (fun ρ => (eVar 3) ρ >>= truD)) (sSet 3 (eBin dAdd (eVar 3) (eSl (eVar 3) oNone (oSome (eC (.int 1)))))) sNext)
    (sSeq (sSet 4 (toLst (eComp (fun ρ => (eCons (eCall dLen (eCons (eVar 3) eNil)) eNil) ρ >>= dRng1) [1] (tgN 1) bYes (eBin dAdd (eCall m__law_line (eCons (eTup (eCons (eC (.str "kept")) (eCons (eVar 1) (eCons (eBin dIx (eBin dIx (eVar 3) (eVar 1)) (eC (.int 0))) (eCons (eBin dIx (eBin dIx (eVar 3) (eVar 1)) (eC (.int 1))) eNil))))) eNil)) (eC (.str "\n"))))))
    (sRet (eCall (m__law_same 12) (eCons (fun ρ => (eC (.str "")) ρ >>= fun x => (fun ρ => (eVar 4) ρ >>= ofLst) ρ >>= fun ds => dJoin x ds) (eCons (eCall m_kept_text (eCons (eVar 3) eNil)) eNil)))))))))
def m_law : List D → R D := runD 1 10 b_law
/-! ### what the top has laid -/
structure Txt (K : PySem.W.Frag) (mg : Str → Option Value) : Prop where
  b_abs : mg "abs" = none
  b_all : mg "all" = none
  b_any : mg "any" = none
  b_bool : mg "bool" = none
  b_enumerate : mg "enumerate" = none
  b_int : mg "int" = none
  b_isinstance : mg "isinstance" = none
  b_len : mg "len" = none
  b_list : mg "list" = none
  b_min : mg "min" = none
  b_range : mg "range" = none
  b_str : mg "str" = none
  b_tuple : mg "tuple" = none
  b_zip : mg "zip" = none
  g_LETTERS : ∃ t : Tok, mg "LETTERS" = some (.str "abcdefghijklmnopqrstuvwxyz" t)
  g_MOST_LETTERS : ∃ t : Tok, mg "MOST_LETTERS" = some (.int 12 t)
  g_FIGURES : ∃ t : Tok, mg "FIGURES" = some (.str "0123456789" t)
  g_MOST_FIGURES : ∃ t : Tok, mg "MOST_FIGURES" = some (.int 12 t)
end K32

namespace K32
open PySem PySem.Spec PyProof.Rows L2 DD
/-! ### the walk -/
section
variable {P : Program} {w : World} {K : PySem.W.Frag} {mg : Str → Option Value} {base : Heap}
theorem sc_is_name : FnScope N_is_name ["text"] (defScope s_is_name) := ⟨rfl, rfl, rfl, by decide +kernel, rfl, by decide +kernel, by decide +kernel⟩
theorem has_is_name (T : Txt K mg) (A : At K mg "is_name" s_is_name ["text"]) : Has P w K mg base 1 "is_name" ["text"] m_is_name := 
  At.has (k := 0) A sc_is_name fun f cdv Ar outer s H E hr => ⟨_, (pssd_one (psd_ret (pd_and (pd_chain op_lt dr_lt op_le dr_le pd_int (pd_callB cr_len dc_len T.b_len PySem.boot_len (pad_cons (pdv 0) pad_nil)) (pd_glob (v := .int 12) (T.g_MOST_LETTERS).choose_spec ⟨_, rfl⟩ (fun _ => rp_int.mpr rfl))) (pd_one (pd_callBO (cr_all rfl) dco_all T.b_all PyProof.Rows.boot_all ((pf_lc (own := [("sign", 1)]) rfl sc_is_name.nd (pid_any (pdv 0)) (blkOk_by (own := [("sign", 1)]) (N := N_is_name) (sc := defScope s_is_name) (by decide +kernel)) (fun _ _ _ _ _ => (pgd_name (i := 1) sc_is_name.nd)) (fun _ _ _ _ _ => ptsd_nil) (fun _ _ _ _ _ => (pd_cmp op_inA dr_in (pdv 1) (pd_glob (v := .str "abcdefghijklmnopqrstuvwxyz") (T.g_LETTERS).choose_spec ⟨_, rfl⟩ (fun _ => rp_str.mpr rfl)))))).pl)))))⟩
theorem sc__is_number : FnScope N__is_number ["word"] (defScope s__is_number) := ⟨rfl, rfl, rfl, by decide +kernel, rfl, by decide +kernel, by decide +kernel⟩
theorem has__is_number (T : Txt K mg) (A : At K mg "_is_number" s__is_number ["word"]) : Has P w K mg base 1 "_is_number" ["word"] m__is_number := 
  At.has (k := 0) A sc__is_number fun f cdv Ar outer s H E hr => ⟨_, (pssd_cons (psd_if ((pwd_or (ptd_not (ptd_chain op_lt dr_lt op_le dr_le pd_int (pd_callB cr_len dc_len T.b_len PySem.boot_len (pad_cons (pdv 0) pad_nil)) (pd_glob (v := .int 12) (T.g_MOST_FIGURES).choose_spec ⟨_, rfl⟩ (fun _ => rp_int.mpr rfl)))) (pwd_or1 (ptd_val (pd_callBO (cr_any rfl) dco_any T.b_any PyProof.Rows.boot_any ((pf_lc (own := [("sign", 1)]) rfl sc__is_number.nd (pid_any (pdv 0)) (blkOk_by (own := [("sign", 1)]) (N := N__is_number) (sc := defScope s__is_number) (by decide +kernel)) (fun _ _ _ _ _ => (pgd_name (i := 1) sc__is_number.nd)) (fun _ _ _ _ _ => ptsd_nil) (fun _ _ _ _ _ => (pd_cmp op_notInA dr_notIn (pdv 1) (pd_glob (v := .str "0123456789") (T.g_FIGURES).choose_spec ⟨_, rfl⟩ (fun _ => rp_str.mpr rfl)))))).pl))))).pt (pssd_one (psd_ret pd_bl)) pssd_nil)
      (pssd_one (psd_ret (pd_or (pd_cmp op_eq dr_eq (pdv 0) pd_str) (pd_one (pd_cmp op_ne dr_ne (pd_ix (pdv 0) pd_int) pd_str))))))⟩
theorem sc__plain_parts : FnScope N__plain_parts ["words"] (defScope s__plain_parts) := ⟨rfl, rfl, rfl, by decide +kernel, rfl, by decide +kernel, by decide +kernel⟩
theorem has__plain_parts (T : Txt K mg) (A : At K mg "_plain_parts" s__plain_parts ["words"]) (h__is_number : Has P w K mg base 1 "_is_number" ["word"] m__is_number) (h_is_name : Has P w K mg base 1 "is_name" ["text"] m_is_name) {a_FORMS : Addr} (C_FORMS : CDict K w a_FORMS c_FORMS) (m_FORMS : mg "FORMS" = some (.ref a_FORMS)) : Has P w K mg base 2 "_plain_parts" ["words"] m__plain_parts := 
  At.has (k := 1) A sc__plain_parts fun f cdv Ar outer s H E hr => ⟨_, (pssd_cons (psd_set (i := 1) sc__plain_parts.nd (pd_atC C_FORMS m_FORMS (pd_ix (pdv 0) pd_int)))
      (pssd_cons (psd_if (ptd_cmp op_ne dr_ne (pd_callB cr_len dc_len T.b_len PySem.boot_len (pad_cons (pdv 0) pad_nil)) (pd_op op_addA dr_add (pd_callB cr_len dc_len T.b_len PySem.boot_len (pad_cons (pdv 1) pad_nil)) pd_int)) (pssd_one (psd_ret pd_non)) pssd_nil)
      (pssd_cons (psd_setO (i := 2) sc__plain_parts.nd (pf_lst (pad_cons (pd_ix (pdv 0) pd_int) pad_nil)))
      (pssd_cons (psd_for PassesOwn.never rfl (pid_zip T.b_zip (pad_cons (pdv 1) (pad_cons (pd_slice (pdv 0) (pod_some pd_int) pod_none) pad_nil))) (pgd_tup rfl (pgsd_cons (pgd_name (i := 3) sc__plain_parts.nd) (pgsd_cons (pgd_name (i := 4) sc__plain_parts.nd) pgsd_nil))) (pssd_one (psd_if ((pwd_and (ptd_cmp op_eq dr_eq (pdv 3) pd_str) (pwd_and1 (ptd_truth (pd_callH h__is_number hr (pad_cons (pdv 4) pad_nil)))))).pt (pssd_one (psd_append 2 (pd_callT cr_int dc_int T.b_int PyProof.Rows.boot_int (pad_cons (pdv 4) pad_nil)))) (pssd_one (psd_if ((pwd_and (ptd_cmp op_eq dr_eq (pdv 3) pd_str) (pwd_and1 (ptd_truth (pd_callH h_is_name hr (pad_cons (pdv 4) pad_nil)))))).pt (pssd_one (psd_append 2 (pdv 4))) (pssd_one (psd_ret pd_non)))))))
      (pssd_one (psd_ret (pd_callTO cr_tuple dco_tuple T.b_tuple PyProof.Rows.boot_tuple (plv 2))))))))⟩
theorem sc__kept_parts : FnScope N__kept_parts ["words"] (defScope s__kept_parts) := ⟨rfl, rfl, rfl, by decide +kernel, rfl, by decide +kernel, by decide +kernel⟩
theorem has__kept_parts (T : Txt K mg) (A : At K mg "_kept_parts" s__kept_parts ["words"]) (h__is_number : Has P w K mg base 1 "_is_number" ["word"] m__is_number) (h_is_name : Has P w K mg base 1 "is_name" ["text"] m_is_name) : Has P w K mg base 2 "_kept_parts" ["words"] m__kept_parts := 
  At.has (k := 1) A sc__kept_parts fun f cdv Ar outer s H E hr => ⟨_, (pssd_cons (psd_if ((pwd_or (ptd_cmp op_lt dr_lt (pd_callB cr_len dc_len T.b_len PySem.boot_len (pad_cons (pdv 0) pad_nil)) pd_int) (pwd_or1 (ptd_not (ptd_truth (pd_callH h__is_number hr (pad_cons (pd_ix (pdv 0) pd_int) pad_nil))))))).pt (pssd_one (psd_ret pd_non)) pssd_nil)
      (pssd_cons (psd_set (i := 1) sc__kept_parts.nd ((pf_split (pd_ix (pdv 0) pd_int) pd_str)).pd)
      (pssd_cons (psd_setLc (i := 2) (own := [("word", 3)]) rfl sc__kept_parts.nd (sw_true rfl rfl rfl (by decide +kernel)) (pid_any (pd_slice (pdv 0) (pod_some pd_int) pod_none)) (blkOk_by (own := [("word", 3)]) (N := N__kept_parts) (sc := defScope s__kept_parts) (by decide +kernel)) (fun _ _ _ _ _ => (pgd_name (i := 3) sc__kept_parts.nd)) (fun _ _ _ _ _ => ptsd_nil) (fun _ _ _ _ _ => (pd_callTO cr_tuple dco_tuple T.b_tuple PyProof.Rows.boot_tuple ((pf_split (pdv 3) pd_str)).pl)))
      (pssd_cons (psd_if (ptd_not (ptd_val (pd_callBO (cr_all rfl) dco_all T.b_all PyProof.Rows.boot_all ((pf_lc (own := [("count", 4)]) rfl sc__kept_parts.nd (pid_any (pdv 1)) (blkOk_by (own := [("count", 4)]) (N := N__kept_parts) (sc := defScope s__kept_parts) (by decide +kernel)) (fun _ _ _ _ _ => (pgd_name (i := 4) sc__kept_parts.nd)) (fun _ _ _ _ _ => ptsd_nil) (fun _ _ _ _ _ => (pd_callH h__is_number hr (pad_cons (pdv 4) pad_nil))))).pl))) (pssd_one (psd_ret pd_non)) pssd_nil)
      (pssd_cons (psd_if (ptd_not (ptd_val (pd_callBO (cr_all rfl) dco_all T.b_all PyProof.Rows.boot_all ((pf_lc (own := [("label", 5)]) rfl sc__kept_parts.nd (pid_any (pdv 2)) (blkOk_by (own := [("label", 5)]) (N := N__kept_parts) (sc := defScope s__kept_parts) (by decide +kernel)) (fun _ _ _ _ _ => (pgd_name (i := 5) sc__kept_parts.nd)) (fun _ _ _ _ _ => ptsd_nil) (fun _ _ _ _ _ => (pd_and (pd_cmp op_eq dr_eq (pd_callB cr_len dc_len T.b_len PySem.boot_len (pad_cons (pdv 5) pad_nil)) pd_int) (pd_and (pd_callH h_is_name hr (pad_cons (pd_ix (pdv 5) pd_int) pad_nil)) (pd_one (pd_callH h_is_name hr (pad_cons (pd_ix (pdv 5) pd_int) pad_nil)))))))).pl))) (pssd_one (psd_ret pd_non)) pssd_nil)
      (pssd_one (psd_ret (pd_tup (pad_cons pd_str (pad_cons (pd_callT cr_int dc_int T.b_int PyProof.Rows.boot_int (pad_cons (pd_ix (pdv 0) pd_int) pad_nil)) (pad_cons (pd_callTO cr_tuple dco_tuple T.b_tuple PyProof.Rows.boot_tuple ((pf_lc (own := [("count", 4)]) rfl sc__kept_parts.nd (pid_any (pdv 1)) (blkOk_by (own := [("count", 4)]) (N := N__kept_parts) (sc := defScope s__kept_parts) (by decide +kernel)) (fun _ _ _ _ _ => (pgd_name (i := 4) sc__kept_parts.nd)) (fun _ _ _ _ _ => ptsd_nil) (fun _ _ _ _ _ => (pd_callT cr_int dc_int T.b_int PyProof.Rows.boot_int (pad_cons (pdv 4) pad_nil))))).pl) (pad_cons (pd_callTO cr_tuple dco_tuple T.b_tuple PyProof.Rows.boot_tuple ((pdv 2)).pl) pad_nil))))))))))))⟩
theorem sc_read_line : FnScope N_read_line ["line"] (defScope s_read_line) := ⟨rfl, rfl, rfl, by decide +kernel, rfl, by decide +kernel, by decide +kernel⟩
theorem has_read_line (T : Txt K mg) (A : At K mg "read_line" s_read_line ["line"]) (h__kept_parts : Has P w K mg base 2 "_kept_parts" ["words"] m__kept_parts) (h__plain_parts : Has P w K mg base 2 "_plain_parts" ["words"] m__plain_parts) {a_FORMS : Addr} (C_FORMS : CDict K w a_FORMS c_FORMS) (m_FORMS : mg "FORMS" = some (.ref a_FORMS)) : Has P w K mg base 3 "read_line" ["line"] m_read_line := 
  At.has (k := 2) A sc_read_line fun f cdv Ar outer s H E hr => ⟨_, (pssd_cons (psd_set (i := 1) sc_read_line.nd ((pf_split (pdv 0) pd_str)).pd)
      (pssd_cons (psd_if (ptd_cmp op_eq dr_eq (pd_ix (pdv 1) pd_int) pd_str) (pssd_one (psd_ret (pd_callH h__kept_parts hr (pad_cons (pdv 1) pad_nil)))) pssd_nil)
      (pssd_cons (psd_if (ptd_inK C_FORMS m_FORMS (pd_ix (pdv 1) pd_int)) (pssd_one (psd_ret (pd_callH h__plain_parts hr (pad_cons (pdv 1) pad_nil)))) pssd_nil)
      (pssd_one (psd_ret pd_non)))))⟩
theorem sc_line_of : FnScope N_line_of ["parts"] (defScope s_line_of) := ⟨rfl, rfl, rfl, by decide +kernel, rfl, by decide +kernel, by decide +kernel⟩
theorem has_line_of (T : Txt K mg) (A : At K mg "line_of" s_line_of ["parts"]) : Has P w K mg base 1 "line_of" ["parts"] m_line_of := 
  At.has (k := 0) A sc_line_of fun f cdv Ar outer s H E hr => ⟨_, (pssd_cons (psd_if (ptd_cmp op_ne dr_ne (pd_ix (pdv 0) pd_int) pd_str) (pssd_one (psd_ret (pd_join pd_str ((pf_lc (own := [("part", 6)]) rfl sc_line_of.nd (pid_any (pdv 0)) (blkOk_by (own := [("part", 6)]) (N := N_line_of) (sc := defScope s_line_of) (by decide +kernel)) (fun _ _ _ _ _ => (pgd_name (i := 6) sc_line_of.nd)) (fun _ _ _ _ _ => ptsd_nil) (fun _ _ _ _ _ => (pd_callT cr_str dc_str T.b_str PyProof.Rows.boot_str (pad_cons (pdv 6) pad_nil))))).pl))) pssd_nil)
      (pssd_cons (psd_set (i := 1) sc_line_of.nd (pd_join pd_str ((pf_lc (own := [("count", 3)]) rfl sc_line_of.nd (pid_any (pd_ix (pdv 0) pd_int)) (blkOk_by (own := [("count", 3)]) (N := N_line_of) (sc := defScope s_line_of) (by decide +kernel)) (fun _ _ _ _ _ => (pgd_name (i := 3) sc_line_of.nd)) (fun _ _ _ _ _ => ptsd_nil) (fun _ _ _ _ _ => (pd_callT cr_str dc_str T.b_str PyProof.Rows.boot_str (pad_cons (pdv 3) pad_nil))))).pl))
      (pssd_cons (psd_setLc (i := 2) (own := [("name", 4), ("result", 5)]) rfl sc_line_of.nd (sw_true rfl rfl rfl (by decide +kernel)) (pid_any (pd_ix (pdv 0) pd_int)) (blkOk_by (own := [("name", 4), ("result", 5)]) (N := N_line_of) (sc := defScope s_line_of) (by decide +kernel)) (fun _ _ _ _ _ => (pgd_tup rfl (pgsd_cons (pgd_name (i := 4) sc_line_of.nd) (pgsd_cons (pgd_name (i := 5) sc_line_of.nd) pgsd_nil)))) (fun _ _ _ _ _ => ptsd_nil) (fun _ _ _ _ _ => (pd_joined (.cons (pd_fmt (pdv 4)) (.cons pd_str (.cons (pd_fmt (pdv 5)) .nil))))))
      (pssd_one (psd_ret (pd_join pd_str ((pd_op op_addA dr_add ((pf_lst (pad_cons pd_str (pad_cons (pd_callT cr_str dc_str T.b_str PyProof.Rows.boot_str (pad_cons (pd_ix (pdv 0) pd_int) pad_nil)) (pad_cons (pdv 1) pad_nil))))).pd (pdv 2))).pl))))))⟩
theorem sc_kept_text : FnScope N_kept_text ["cases"] (defScope s_kept_text) := ⟨rfl, rfl, rfl, by decide +kernel, rfl, by decide +kernel, by decide +kernel⟩
theorem has_kept_text (T : Txt K mg) (A : At K mg "kept_text" s_kept_text ["cases"]) (h_line_of : Has P w K mg base 1 "line_of" ["parts"] m_line_of) : Has P w K mg base 2 "kept_text" ["cases"] m_kept_text := 
  At.has (k := 1) A sc_kept_text fun f cdv Ar outer s H E hr => ⟨_, (pssd_one (psd_ret (pd_join pd_str ((pf_lc (own := [("case", 1), ("counts", 2), ("word", 3)]) rfl sc_kept_text.nd (pid_enum T.b_enumerate (pad_cons (pdv 0) pad_nil)) (blkOk_by (own := [("case", 1), ("counts", 2), ("word", 3)]) (N := N_kept_text) (sc := defScope s_kept_text) (by decide +kernel)) (fun _ _ _ _ _ => (pgd_tup rfl (pgsd_cons (pgd_name (i := 1) sc_kept_text.nd) (pgsd_cons (pgd_tup rfl (pgsd_cons (pgd_name (i := 2) sc_kept_text.nd) (pgsd_cons (pgd_name (i := 3) sc_kept_text.nd) pgsd_nil))) pgsd_nil)))) (fun _ _ _ _ _ => ptsd_nil) (fun _ _ _ _ _ => (pd_op op_addA dr_add (pd_callH h_line_of hr (pad_cons (pd_tup (pad_cons pd_str (pad_cons (pdv 1) (pad_cons (pdv 2) (pad_cons (pdv 3) pad_nil))))) pad_nil)) pd_str)))).pl)))⟩
theorem sc__law_same : FnScope N__law_same ["one", "other"] (defScope s__law_same) := ⟨rfl, rfl, rfl, by decide +kernel, rfl, by decide +kernel, by decide +kernel⟩
theorem has__law_same (T : Txt K mg) (A : At K mg "_law_same" s__law_same ["one", "other"]) : ∀ n : Nat, Has P w K mg base (n + 0) "_law_same" ["one", "other"] (m__law_same n)
  | 0 => A.none
  | n + 1 => by
    have hrec := has__law_same T A n
    exact At.has (k := n + 0) A sc__law_same fun f cdv Ar outer s H E hr => ⟨_, (pssd_cons (psd_if ((pwd_or (ptd_val (pd_isi T.b_isinstance T.b_bool PyProof.Rows.boot_bool (pdv 0))) (pwd_or1 (ptd_val (pd_isi T.b_isinstance T.b_bool PyProof.Rows.boot_bool (pdv 1)))))).pt (pssd_one (psd_ret (pd_and (pd_isi T.b_isinstance T.b_bool PyProof.Rows.boot_bool (pdv 0)) (pd_and (pd_isi T.b_isinstance T.b_bool PyProof.Rows.boot_bool (pdv 1)) (pd_one (pd_cmp op_eq dr_eq (pdv 0) (pdv 1))))))) pssd_nil)
      (pssd_cons (psd_if (ptd_val (pd_isi T.b_isinstance T.b_int PyProof.Rows.boot_int (pdv 0))) (pssd_one (psd_ret (pd_and (pd_isi T.b_isinstance T.b_int PyProof.Rows.boot_int (pdv 1)) (pd_one (pd_cmp op_eq dr_eq (pdv 0) (pdv 1)))))) pssd_nil)
      (pssd_cons (psd_if (ptd_val (pd_isi T.b_isinstance T.b_str PyProof.Rows.boot_str (pdv 0))) (pssd_one (psd_ret (pd_and (pd_isi T.b_isinstance T.b_str PyProof.Rows.boot_str (pdv 1)) (pd_one (pd_cmp op_eq dr_eq (pdv 0) (pdv 1)))))) pssd_nil)
      (pssd_cons (psd_if (ptd_val (pd_isi T.b_isinstance T.b_tuple PyProof.Rows.boot_tuple (pdv 0))) (pssd_cons (psd_if ((pwd_or (ptd_not (ptd_val (pd_isi T.b_isinstance T.b_tuple PyProof.Rows.boot_tuple (pdv 1)))) (pwd_or1 (ptd_cmp op_ne dr_ne (pd_callB cr_len dc_len T.b_len PySem.boot_len (pad_cons (pdv 0) pad_nil)) (pd_callB cr_len dc_len T.b_len PySem.boot_len (pad_cons (pdv 1) pad_nil)))))).pt (pssd_one (psd_ret pd_bl)) pssd_nil)
      (pssd_one (psd_ret (pd_callBO (cr_all rfl) dco_all T.b_all PyProof.Rows.boot_all ((pf_lc (own := [("k", 2)]) rfl sc__law_same.nd (pid_range1 T.b_range (pad_cons (pd_callB cr_len dc_len T.b_len PySem.boot_len (pad_cons (pdv 0) pad_nil)) pad_nil)) (blkOk_by (own := [("k", 2)]) (N := N__law_same) (sc := defScope s__law_same) (by decide +kernel)) (fun _ _ _ _ _ => (pgd_name (i := 2) sc__law_same.nd)) (fun _ _ _ _ _ => ptsd_nil) (fun _ _ _ _ _ => (pd_callH hrec hr (pad_cons (pd_ix (pdv 0) (pdv 2)) (pad_cons (pd_ix (pdv 1) (pdv 2)) pad_nil)) (Nat.le_refl _))))).pl)))) pssd_nil)
      (pssd_cons (psd_if (ptd_val (pd_isi T.b_isinstance T.b_list PyProof.Rows.boot_list (pdv 0))) (pssd_cons (psd_if ((pwd_or (ptd_not (ptd_val (pd_isi T.b_isinstance T.b_list PyProof.Rows.boot_list (pdv 1)))) (pwd_or1 (ptd_cmp op_ne dr_ne (pd_callB cr_len dc_len T.b_len PySem.boot_len (pad_cons (pdv 0) pad_nil)) (pd_callB cr_len dc_len T.b_len PySem.boot_len (pad_cons (pdv 1) pad_nil)))))).pt (pssd_one (psd_ret pd_bl)) pssd_nil)
      (pssd_one (psd_ret (pd_callBO (cr_all rfl) dco_all T.b_all PyProof.Rows.boot_all ((pf_lc (own := [("k", 2)]) rfl sc__law_same.nd (pid_range1 T.b_range (pad_cons (pd_callB cr_len dc_len T.b_len PySem.boot_len (pad_cons (pdv 0) pad_nil)) pad_nil)) (blkOk_by (own := [("k", 2)]) (N := N__law_same) (sc := defScope s__law_same) (by decide +kernel)) (fun _ _ _ _ _ => (pgd_name (i := 2) sc__law_same.nd)) (fun _ _ _ _ _ => ptsd_nil) (fun _ _ _ _ _ => (pd_callH hrec hr (pad_cons (pd_ix (pdv 0) (pdv 2)) (pad_cons (pd_ix (pdv 1) (pdv 2)) pad_nil)) (Nat.le_refl _))))).pl)))) pssd_nil)
      (pssd_one (psd_ret (pd_and (pd_cmp op_isN dr_isN (pdv 0) pd_non) (pd_one (pd_cmp op_isN dr_isN (pdv 1) pd_non))))))))))⟩
theorem sc__law_cell : FnScope N__law_cell ["script", "k"] (defScope s__law_cell) := ⟨rfl, rfl, rfl, by decide +kernel, rfl, by decide +kernel, by decide +kernel⟩
theorem has__law_cell (T : Txt K mg) (A : At K mg "_law_cell" s__law_cell ["script", "k"]) : Has P w K mg base 1 "_law_cell" ["script", "k"] m__law_cell := 
  At.has (k := 0) A sc__law_cell fun f cdv Ar outer s H E hr => ⟨_, (pssd_cons (psd_if (ptd_cmp op_lt dr_lt (pdv 1) (pd_callB cr_len dc_len T.b_len PySem.boot_len (pad_cons (pdv 0) pad_nil))) (pssd_one (psd_ret (pd_ix (pdv 0) (pdv 1)))) pssd_nil)
      (pssd_one (psd_ret pd_int)))⟩
theorem sc__law_draws : FnScope N__law_draws ["cell", "count"] (defScope s__law_draws) := ⟨rfl, rfl, rfl, by decide +kernel, rfl, by decide +kernel, by decide +kernel⟩
theorem has__law_draws (T : Txt K mg) (A : At K mg "_law_draws" s__law_draws ["cell", "count"]) : Has P w K mg base 1 "_law_draws" ["cell", "count"] m__law_draws := 
  At.has (k := 0) A sc__law_draws fun f cdv Ar outer s H E hr => ⟨_, (pssd_cons (psd_setO (i := 2) sc__law_draws.nd (pf_lst pad_nil))
      (pssd_cons (psd_set (i := 3) sc__law_draws.nd (pd_callB cr_abs dc_abs T.b_abs PyProof.Rows.boot_abs (pad_cons (pdv 0) pad_nil)))
      (pssd_cons (psd_if (ptd_cmp op_lt dr_lt (pdv 3) (pd_op op_pow dr_pow pd_int pd_int)) (pssd_one (psd_set (i := 3) sc__law_draws.nd pd_int)) pssd_nil)
      (pssd_cons (psd_for PassesOwn.never rfl (pid_range1 T.b_range (pad_cons (pdv 1) pad_nil)) (pgd_name (i := 4) sc__law_draws.nd) (pssd_one (psd_if (ptd_cmp op_gt dr_gt (pdv 3) pd_int) (pssd_cons (psd_append 2 (pd_op op_mod dr_mod (pd_callT cr_int dc_int T.b_int PyProof.Rows.boot_int (pad_cons (pdv 3) pad_nil)) pd_int))
      (pssd_one (psd_set (i := 3) sc__law_draws.nd (pd_op op_fdiv dr_fdiv (pdv 3) pd_int)))) (pssd_cons (psd_set (i := 5) sc__law_draws.nd (pd_op op_mod dr_mod (pd_callT cr_int dc_int T.b_int PyProof.Rows.boot_int (pad_cons (pd_op op_addA dr_add (pd_op op_mul dr_mul (pd_op op_addA dr_add (pd_callB cr_abs dc_abs T.b_abs PyProof.Rows.boot_abs (pad_cons (pdv 0) pad_nil)) pd_int) pd_int) (pd_op op_mul dr_mul (pd_op op_addA dr_add (pdv 4) pd_int) pd_int)) pad_nil)) pd_int))
      (pssd_one (psd_append 2 (pd_op op_mod dr_mod (pd_op op_fdiv dr_fdiv (pd_op op_mod dr_mod (pd_callT cr_int dc_int T.b_int PyProof.Rows.boot_int (pad_cons (pd_op op_addA dr_add (pd_op op_mul dr_mul (pdv 5) pd_int) (pd_op op_mul dr_mul (pdv 4) pd_int)) pad_nil)) pd_int) pd_int) pd_int)))))))
      (pssd_one (psd_frz 2 (psd_ret (pdv 2))))))))⟩
theorem sc__law_name : FnScope N__law_name ["number", "salt"] (defScope s__law_name) := ⟨rfl, rfl, rfl, by decide +kernel, rfl, by decide +kernel, by decide +kernel⟩
theorem has__law_name (T : Txt K mg) (A : At K mg "_law_name" s__law_name ["number", "salt"]) : Has P w K mg base 1 "_law_name" ["number", "salt"] m__law_name := 
  At.has (k := 0) A sc__law_name fun f cdv Ar outer s H E hr => ⟨_, (pssd_cons (psd_set (i := 2) sc__law_name.nd pd_str)
      (pssd_cons (psd_set (i := 3) sc__law_name.nd (pd_op op_addA dr_add (pd_op op_mul dr_mul (pdv 1) pd_int) (pdv 0)))
      (pssd_cons (psd_set (i := 4) sc__law_name.nd (pd_ix (pdv 2) (pd_op op_mod dr_mod (pd_callT cr_int dc_int T.b_int PyProof.Rows.boot_int (pad_cons (pdv 3) pad_nil)) pd_int)))
      (pssd_cons (psd_set (i := 3) sc__law_name.nd (pd_op op_fdiv dr_fdiv (pdv 3) pd_int))
      (pssd_cons (psd_for PassesOwn.never rfl (pid_range1 T.b_range (pad_cons pd_int pad_nil)) (pgd_name (i := 5) sc__law_name.nd) (pssd_one (psd_if (ptd_cmp op_gt dr_gt (pdv 3) pd_int) (pssd_cons (psd_set (i := 4) sc__law_name.nd (pd_op op_addA dr_add (pd_ix (pdv 2) (pd_op op_mod dr_mod (pd_callT cr_int dc_int T.b_int PyProof.Rows.boot_int (pad_cons (pdv 3) pad_nil)) pd_int)) (pdv 4)))
      (pssd_one (psd_set (i := 3) sc__law_name.nd (pd_op op_fdiv dr_fdiv (pdv 3) pd_int)))) pssd_nil)))
      (pssd_cons (psd_if (ptd_cmp op_eq dr_eq (pd_op op_mod dr_mod (pd_callT cr_int dc_int T.b_int PyProof.Rows.boot_int (pad_cons (pdv 1) pad_nil)) pd_int) pd_int) (pssd_one (psd_ret (pd_revS (pdv 4)))) pssd_nil)
      (pssd_one (psd_ret (pdv 4)))))))))⟩
theorem sc__law_integer : FnScope N__law_integer ["draws"] (defScope s__law_integer) := ⟨rfl, rfl, rfl, by decide +kernel, rfl, by decide +kernel, by decide +kernel⟩
theorem has__law_integer (T : Txt K mg) (A : At K mg "_law_integer" s__law_integer ["draws"]) : Has P w K mg base 1 "_law_integer" ["draws"] m__law_integer := 
  At.has (k := 0) A sc__law_integer fun f cdv Ar outer s H E hr => ⟨_, (pssd_cons (psd_set (i := 1) sc__law_integer.nd (pd_op op_mod dr_mod (pd_callT cr_int dc_int T.b_int PyProof.Rows.boot_int (pad_cons (pd_ix (pdv 0) pd_int) pad_nil)) pd_int))
      (pssd_cons (psd_if (ptd_cmp op_eq dr_eq (pdv 1) pd_int) (pssd_one (psd_ret (pd_ix (pd_tup (pad_cons pd_int (pad_cons pd_int (pad_cons pd_int (pad_cons pd_int (pad_cons pd_int (pad_cons pd_int pad_nil))))))) (pd_op op_mod dr_mod (pd_callT cr_int dc_int T.b_int PyProof.Rows.boot_int (pad_cons (pd_ix (pdv 0) pd_int) pad_nil)) pd_int)))) pssd_nil)
      (pssd_cons (psd_if (ptd_cmp op_lt dr_lt (pdv 1) pd_int) (pssd_one (psd_ret (pd_op op_mod dr_mod (pd_callT cr_int dc_int T.b_int PyProof.Rows.boot_int (pad_cons (pd_ix (pdv 0) pd_int) pad_nil)) pd_int))) pssd_nil)
      (pssd_one (psd_ret (pd_op op_mod dr_mod (pd_callT cr_int dc_int T.b_int PyProof.Rows.boot_int (pad_cons (pd_op op_addA dr_add (pd_op op_addA dr_add (pd_op op_addA dr_add (pd_op op_mul dr_mul (pd_ix (pdv 0) pd_int) (pd_op op_pow dr_pow pd_int pd_int)) (pd_op op_mul dr_mul (pd_ix (pdv 0) pd_int) (pd_op op_pow dr_pow pd_int pd_int))) (pd_op op_mul dr_mul (pd_ix (pdv 0) pd_int) pd_int)) (pd_ix (pdv 0) pd_int)) pad_nil)) (pd_op op_pow dr_pow pd_int pd_int)))))))⟩
theorem sc__law_word : FnScope N__law_word ["draws"] (defScope s__law_word) := ⟨rfl, rfl, rfl, by decide +kernel, rfl, by decide +kernel, by decide +kernel⟩
theorem has__law_word (T : Txt K mg) (A : At K mg "_law_word" s__law_word ["draws"]) (h__law_name : Has P w K mg base 1 "_law_name" ["number", "salt"] m__law_name) : Has P w K mg base 2 "_law_word" ["draws"] m__law_word := 
  At.has (k := 1) A sc__law_word fun f cdv Ar outer s H E hr => ⟨_, (pssd_cons (psd_if (ptd_cmp op_eq dr_eq (pd_op op_mod dr_mod (pd_callT cr_int dc_int T.b_int PyProof.Rows.boot_int (pad_cons (pd_ix (pdv 0) pd_int) pad_nil)) pd_int) pd_int) (pssd_one (psd_ret (pd_callH h__law_name hr (pad_cons (pd_ix (pdv 0) pd_int) (pad_cons (pd_op op_mul dr_mul (pd_op op_addA dr_add pd_int (pd_ix (pdv 0) pd_int)) (pd_op op_pow dr_pow pd_int pd_int)) pad_nil))))) pssd_nil)
      (pssd_one (psd_ret (pd_callH h__law_name hr (pad_cons (pd_ix (pdv 0) pd_int) (pad_cons (pd_op op_mul dr_mul (pd_op op_mod dr_mod (pd_callT cr_int dc_int T.b_int PyProof.Rows.boot_int (pad_cons (pd_ix (pdv 0) pd_int) pad_nil)) pd_int) (pd_callT cr_int dc_int T.b_int PyProof.Rows.boot_int (pad_cons (pd_ix (pdv 0) pd_int) pad_nil))) pad_nil))))))⟩
theorem sc__law_kept : FnScope N__law_kept ["draws"] (defScope s__law_kept) := ⟨rfl, rfl, rfl, by decide +kernel, rfl, by decide +kernel, by decide +kernel⟩
theorem has__law_kept (T : Txt K mg) (A : At K mg "_law_kept" s__law_kept ["draws"]) (h__law_integer : Has P w K mg base 1 "_law_integer" ["draws"] m__law_integer) (h__law_word : Has P w K mg base 2 "_law_word" ["draws"] m__law_word) : Has P w K mg base 3 "_law_kept" ["draws"] m__law_kept := 
  At.has (k := 2) A sc__law_kept fun f cdv Ar outer s H E hr => ⟨_, (pssd_cons (psd_set (i := 1) sc__law_kept.nd (pd_callTO cr_tuple dco_tuple T.b_tuple PyProof.Rows.boot_tuple ((pf_lc (own := [("k", 3)]) rfl sc__law_kept.nd (pid_range1 T.b_range (pad_cons (pd_op op_addA dr_add pd_int (pd_op op_mod dr_mod (pd_callT cr_int dc_int T.b_int PyProof.Rows.boot_int (pad_cons (pd_ix (pdv 0) pd_int) pad_nil)) pd_int)) pad_nil)) (blkOk_by (own := [("k", 3)]) (N := N__law_kept) (sc := defScope s__law_kept) (by decide +kernel)) (fun _ _ _ _ _ => (pgd_name (i := 3) sc__law_kept.nd)) (fun _ _ _ _ _ => ptsd_nil) (fun _ _ _ _ _ => (pd_callH h__law_integer hr (pad_cons (pd_slice (pdv 0) (pod_some (pd_op op_mul dr_mul pd_int (pdv 3))) (pod_some (pd_op op_addA dr_add (pd_op op_mul dr_mul pd_int (pdv 3)) pd_int))) pad_nil))))).pl))
      (pssd_cons (psd_setO (i := 2) sc__law_kept.nd (pf_lst pad_nil))
      (pssd_cons (psd_for PassesOwn.never rfl (pid_range1 T.b_range (pad_cons (pd_op op_mod dr_mod (pd_callT cr_int dc_int T.b_int PyProof.Rows.boot_int (pad_cons (pd_ix (pdv 0) pd_int) pad_nil)) pd_int) pad_nil)) (pgd_name (i := 3) sc__law_kept.nd) (pssd_one (psd_append 2 (pd_tup (pad_cons (pd_callH h__law_word hr (pad_cons (pd_slice (pdv 0) (pod_some (pd_op op_addA dr_add pd_int (pd_op op_mul dr_mul pd_int (pdv 3)))) (pod_some (pd_op op_addA dr_add pd_int (pd_op op_mul dr_mul pd_int (pdv 3))))) pad_nil)) (pad_cons (pd_callH h__law_word hr (pad_cons (pd_slice (pdv 0) (pod_some (pd_op op_addA dr_add pd_int (pd_op op_mul dr_mul pd_int (pdv 3)))) (pod_some (pd_op op_addA dr_add pd_int (pd_op op_mul dr_mul pd_int (pdv 3))))) pad_nil)) pad_nil))))))
      (pssd_one (psd_ret (pd_tup (pad_cons (pdv 1) (pad_cons (pd_callTO cr_tuple dco_tuple T.b_tuple PyProof.Rows.boot_tuple (plv 2)) pad_nil))))))))⟩
theorem sc__law_parts : FnScope N__law_parts ["kind", "draws"] (defScope s__law_parts) := ⟨rfl, rfl, rfl, by decide +kernel, rfl, by decide +kernel, by decide +kernel⟩
theorem has__law_parts (T : Txt K mg) (A : At K mg "_law_parts" s__law_parts ["kind", "draws"]) (h__law_integer : Has P w K mg base 1 "_law_integer" ["draws"] m__law_integer) (h__law_word : Has P w K mg base 2 "_law_word" ["draws"] m__law_word) (h__law_kept : Has P w K mg base 3 "_law_kept" ["draws"] m__law_kept) : Has P w K mg base 4 "_law_parts" ["kind", "draws"] m__law_parts := 
  At.has (k := 3) A sc__law_parts fun f cdv Ar outer s H E hr => ⟨_, (pssd_cons (psd_setLc (i := 2) (own := [("k", 5)]) rfl sc__law_parts.nd (sw_true rfl rfl rfl (by decide +kernel)) (pid_range1 T.b_range (pad_cons pd_int pad_nil)) (blkOk_by (own := [("k", 5)]) (N := N__law_parts) (sc := defScope s__law_parts) (by decide +kernel)) (fun _ _ _ _ _ => (pgd_name (i := 5) sc__law_parts.nd)) (fun _ _ _ _ _ => ptsd_nil) (fun _ _ _ _ _ => (pd_callH h__law_integer hr (pad_cons (pd_slice (pdv 1) (pod_some (pd_op op_mul dr_mul pd_int (pdv 5))) (pod_some (pd_op op_addA dr_add (pd_op op_mul dr_mul pd_int (pdv 5)) pd_int))) pad_nil))))
      (pssd_cons (psd_setLc (i := 3) (own := [("k", 5)]) rfl sc__law_parts.nd (sw_true rfl rfl rfl (by decide +kernel)) (pid_range1 T.b_range (pad_cons pd_int pad_nil)) (blkOk_by (own := [("k", 5)]) (N := N__law_parts) (sc := defScope s__law_parts) (by decide +kernel)) (fun _ _ _ _ _ => (pgd_name (i := 5) sc__law_parts.nd)) (fun _ _ _ _ _ => ptsd_nil) (fun _ _ _ _ _ => (pd_callH h__law_word hr (pad_cons (pd_slice (pdv 1) (pod_some (pd_op op_addA dr_add pd_int (pd_op op_mul dr_mul pd_int (pdv 5)))) (pod_some (pd_op op_addA dr_add pd_int (pd_op op_mul dr_mul pd_int (pdv 5))))) pad_nil))))
      (pssd_cons (psd_if (ptd_cmp op_eq dr_eq (pdv 0) pd_int) (pssd_one (psd_ret (pd_tup (pad_cons pd_str (pad_cons (pd_ix (pdv 2) pd_int) pad_nil))))) pssd_nil)
      (pssd_cons (psd_if (ptd_cmp op_eq dr_eq (pdv 0) pd_int) (pssd_one (psd_ret (pd_tup (pad_cons pd_str (pad_cons (pd_ix (pdv 2) pd_int) (pad_cons (pd_ix (pdv 3) pd_int) (pad_cons (pd_ix (pdv 2) pd_int) (pad_cons (pd_ix (pdv 2) pd_int) (pad_cons (pd_ix (pdv 3) pd_int) (pad_cons (pd_ix (pdv 2) pd_int) pad_nil)))))))))) pssd_nil)
      (pssd_cons (psd_if (ptd_cmp op_eq dr_eq (pdv 0) pd_int) (pssd_one (psd_ret (pd_tup (pad_cons pd_str (pad_cons (pd_ix (pdv 2) pd_int) (pad_cons (pd_ix (pdv 3) pd_int) (pad_cons (pd_ix (pdv 2) pd_int) (pad_cons (pd_ix (pdv 2) pd_int) (pad_cons (pd_ix (pdv 3) pd_int) pad_nil))))))))) pssd_nil)
      (pssd_cons (psd_if (ptd_cmp op_eq dr_eq (pdv 0) pd_int) (pssd_one (psd_ret (pd_tup (pad_cons pd_str (pad_cons (pd_ix (pdv 2) pd_int) (pad_cons (pd_ix (pdv 3) pd_int) pad_nil)))))) pssd_nil)
      (pssd_cons (psd_set (i := 4) sc__law_parts.nd (pd_callH h__law_kept hr (pad_cons (pdv 1) pad_nil)))
      (pssd_one (psd_ret (pd_tup (pad_cons pd_str (pad_cons (pd_ix (pdv 2) pd_int) (pad_cons (pd_ix (pdv 4) pd_int) (pad_cons (pd_ix (pdv 4) pd_int) pad_nil))))))))))))))⟩
theorem sc__law_line : FnScope N__law_line ["parts"] (defScope s__law_line) := ⟨rfl, rfl, rfl, by decide +kernel, rfl, by decide +kernel, by decide +kernel⟩
theorem has__law_line (T : Txt K mg) (A : At K mg "_law_line" s__law_line ["parts"]) : Has P w K mg base 1 "_law_line" ["parts"] m__law_line := 
  At.has (k := 0) A sc__law_line fun f cdv Ar outer s H E hr => ⟨_, (pssd_cons (psd_if (ptd_cmp op_ne dr_ne (pd_ix (pdv 0) pd_int) pd_str) (pssd_one (psd_ret (pd_join pd_str ((pf_lc (own := [("part", 3)]) rfl sc__law_line.nd (pid_any (pdv 0)) (blkOk_by (own := [("part", 3)]) (N := N__law_line) (sc := defScope s__law_line) (by decide +kernel)) (fun _ _ _ _ _ => (pgd_name (i := 3) sc__law_line.nd)) (fun _ _ _ _ _ => ptsd_nil) (fun _ _ _ _ _ => (pd_callT cr_str dc_str T.b_str PyProof.Rows.boot_str (pad_cons (pdv 3) pad_nil))))).pl))) pssd_nil)
      (pssd_cons (psd_set (i := 1) sc__law_line.nd (pd_op op_addA dr_add (pd_op op_addA dr_add (pd_op op_addA dr_add pd_str (pd_callT cr_str dc_str T.b_str PyProof.Rows.boot_str (pad_cons (pd_ix (pdv 0) pd_int) pad_nil))) pd_str) (pd_join pd_str ((pf_lc (own := [("count", 4)]) rfl sc__law_line.nd (pid_any (pd_ix (pdv 0) pd_int)) (blkOk_by (own := [("count", 4)]) (N := N__law_line) (sc := defScope s__law_line) (by decide +kernel)) (fun _ _ _ _ _ => (pgd_name (i := 4) sc__law_line.nd)) (fun _ _ _ _ _ => ptsd_nil) (fun _ _ _ _ _ => (pd_callT cr_str dc_str T.b_str PyProof.Rows.boot_str (pad_cons (pdv 4) pad_nil))))).pl)))
      (pssd_cons (psd_for PassesOwn.never rfl (pid_any (pd_ix (pdv 0) pd_int)) (pgd_name (i := 2) sc__law_line.nd) (pssd_one (psd_set (i := 1) sc__law_line.nd (pd_op op_addA dr_add (pd_op op_addA dr_add (pd_op op_addA dr_add (pd_op op_addA dr_add (pdv 1) pd_str) (pd_ix (pdv 2) pd_int)) pd_str) (pd_ix (pdv 2) pd_int)))))
      (pssd_one (psd_ret (pdv 1))))))⟩
theorem sc__law_number : FnScope N__law_number ["word"] (defScope s__law_number) := ⟨rfl, rfl, rfl, by decide +kernel, rfl, by decide +kernel, by decide +kernel⟩
theorem has__law_number (T : Txt K mg) (A : At K mg "_law_number" s__law_number ["word"]) : Has P w K mg base 1 "_law_number" ["word"] m__law_number := 
  At.has (k := 0) A sc__law_number fun f cdv Ar outer s H E hr => ⟨_, (pssd_cons (psd_if ((pwd_or (ptd_cmp op_lt dr_lt (pd_callB cr_len dc_len T.b_len PySem.boot_len (pad_cons (pdv 0) pad_nil)) pd_int) (pwd_or (ptd_cmp op_gt dr_gt (pd_callB cr_len dc_len T.b_len PySem.boot_len (pad_cons (pdv 0) pad_nil)) pd_int) (pwd_or1 (ptd_not (ptd_val (pd_callBO (cr_all rfl) dco_all T.b_all PyProof.Rows.boot_all ((pf_lc (own := [("sign", 1)]) rfl sc__law_number.nd (pid_any (pdv 0)) (blkOk_by (own := [("sign", 1)]) (N := N__law_number) (sc := defScope s__law_number) (by decide +kernel)) (fun _ _ _ _ _ => (pgd_name (i := 1) sc__law_number.nd)) (fun _ _ _ _ _ => ptsd_nil) (fun _ _ _ _ _ => (pd_cmp op_inA dr_in (pdv 1) pd_str)))).pl))))))).pt (pssd_one (psd_ret (pd_neg pd_int))) pssd_nil)
      (pssd_cons (psd_if ((pwd_and (ptd_cmp op_gt dr_gt (pd_callB cr_len dc_len T.b_len PySem.boot_len (pad_cons (pdv 0) pad_nil)) pd_int) (pwd_and1 (ptd_cmp op_eq dr_eq (pd_ix (pdv 0) pd_int) pd_str)))).pt (pssd_one (psd_ret (pd_neg pd_int))) pssd_nil)
      (pssd_one (psd_ret (pd_callT cr_int dc_int T.b_int PyProof.Rows.boot_int (pad_cons (pdv 0) pad_nil))))))⟩
theorem sc__law_is_name : FnScope N__law_is_name ["word"] (defScope s__law_is_name) := ⟨rfl, rfl, rfl, by decide +kernel, rfl, by decide +kernel, by decide +kernel⟩
theorem has__law_is_name (T : Txt K mg) (A : At K mg "_law_is_name" s__law_is_name ["word"]) : Has P w K mg base 1 "_law_is_name" ["word"] m__law_is_name := 
  At.has (k := 0) A sc__law_is_name fun f cdv Ar outer s H E hr => ⟨_, (pssd_one (psd_ret (pd_and (pd_cmp op_lt dr_lt pd_int (pd_callB cr_len dc_len T.b_len PySem.boot_len (pad_cons (pdv 0) pad_nil))) (pd_and (pd_cmp op_lt dr_lt (pd_callB cr_len dc_len T.b_len PySem.boot_len (pad_cons (pdv 0) pad_nil)) pd_int) (pd_one (pd_callBO (cr_all rfl) dco_all T.b_all PyProof.Rows.boot_all ((pf_lc (own := [("sign", 1)]) rfl sc__law_is_name.nd (pid_any (pdv 0)) (blkOk_by (own := [("sign", 1)]) (N := N__law_is_name) (sc := defScope s__law_is_name) (by decide +kernel)) (fun _ _ _ _ _ => (pgd_name (i := 1) sc__law_is_name.nd)) (fun _ _ _ _ _ => ptsd_nil) (fun _ _ _ _ _ => (pd_cmp op_inA dr_in (pdv 1) pd_str)))).pl))))))⟩
theorem sc__law_read_kept : FnScope N__law_read_kept ["words"] (defScope s__law_read_kept) := ⟨rfl, rfl, rfl, by decide +kernel, rfl, by decide +kernel, by decide +kernel⟩
theorem has__law_read_kept (T : Txt K mg) (A : At K mg "_law_read_kept" s__law_read_kept ["words"]) (h__law_number : Has P w K mg base 1 "_law_number" ["word"] m__law_number) (h__law_is_name : Has P w K mg base 1 "_law_is_name" ["word"] m__law_is_name) : Has P w K mg base 2 "_law_read_kept" ["words"] m__law_read_kept := 
  At.has (k := 1) A sc__law_read_kept fun f cdv Ar outer s H E hr => ⟨_, (pssd_cons (psd_if ((pwd_or (ptd_cmp op_lt dr_lt (pd_callB cr_len dc_len T.b_len PySem.boot_len (pad_cons (pdv 0) pad_nil)) pd_int) (pwd_or1 (ptd_cmp op_lt dr_lt (pd_callH h__law_number hr (pad_cons (pd_ix (pdv 0) pd_int) pad_nil)) pd_int)))).pt (pssd_one (psd_ret pd_non)) pssd_nil)
      (pssd_cons (psd_setLc (i := 1) (own := [("word", 3)]) rfl sc__law_read_kept.nd (sw_true rfl rfl rfl (by decide +kernel)) (pid_any ((pf_split (pd_ix (pdv 0) pd_int) pd_str)).pd) (blkOk_by (own := [("word", 3)]) (N := N__law_read_kept) (sc := defScope s__law_read_kept) (by decide +kernel)) (fun _ _ _ _ _ => (pgd_name (i := 3) sc__law_read_kept.nd)) (fun _ _ _ _ _ => ptsd_nil) (fun _ _ _ _ _ => (pd_callH h__law_number hr (pad_cons (pdv 3) pad_nil))))
      (pssd_cons (psd_if (ptd_cmp op_lt dr_lt (pd_callBO (cr_min rfl) dco_min T.b_min PyProof.Rows.boot_min ((pdv 1)).pl) pd_int) (pssd_one (psd_ret pd_non)) pssd_nil)
      (pssd_cons (psd_setO (i := 2) sc__law_read_kept.nd (pf_lst pad_nil))
      (pssd_cons (psd_for PassesOwn.never rfl (pid_any (pd_slice (pdv 0) (pod_some pd_int) pod_none)) (pgd_name (i := 3) sc__law_read_kept.nd) (pssd_cons (psd_set (i := 4) sc__law_read_kept.nd ((pf_split (pdv 3) pd_str)).pd)
      (pssd_cons (psd_if ((pwd_or (ptd_cmp op_ne dr_ne (pd_callB cr_len dc_len T.b_len PySem.boot_len (pad_cons (pdv 4) pad_nil)) pd_int) (pwd_or (ptd_not (ptd_truth (pd_callH h__law_is_name hr (pad_cons (pd_ix (pdv 4) pd_int) pad_nil)))) (pwd_or1 (ptd_not (ptd_truth (pd_callH h__law_is_name hr (pad_cons (pd_ix (pdv 4) pd_int) pad_nil)))))))).pt (pssd_one (psd_ret pd_non)) pssd_nil)
      (pssd_one (psd_append 2 (pd_tup (pad_cons (pd_ix (pdv 4) pd_int) (pad_cons (pd_ix (pdv 4) pd_int) pad_nil))))))))
      (pssd_one (psd_ret (pd_tup (pad_cons pd_str (pad_cons (pd_callH h__law_number hr (pad_cons (pd_ix (pdv 0) pd_int) pad_nil)) (pad_cons (pd_callTO cr_tuple dco_tuple T.b_tuple PyProof.Rows.boot_tuple ((pdv 1)).pl) (pad_cons (pd_callTO cr_tuple dco_tuple T.b_tuple PyProof.Rows.boot_tuple (plv 2)) pad_nil))))))))))))⟩
theorem sc__law_read : FnScope N__law_read ["line"] (defScope s__law_read) := ⟨rfl, rfl, rfl, by decide +kernel, rfl, by decide +kernel, by decide +kernel⟩
theorem has__law_read (T : Txt K mg) (A : At K mg "_law_read" s__law_read ["line"]) (h__law_read_kept : Has P w K mg base 2 "_law_read_kept" ["words"] m__law_read_kept) (h__law_number : Has P w K mg base 1 "_law_number" ["word"] m__law_number) (h__law_is_name : Has P w K mg base 1 "_law_is_name" ["word"] m__law_is_name) : Has P w K mg base 3 "_law_read" ["line"] m__law_read := 
  At.has (k := 2) A sc__law_read fun f cdv Ar outer s H E hr => ⟨_, (pssd_cons (psd_set (i := 1) sc__law_read.nd ((pf_split (pdv 0) pd_str)).pd)
      (pssd_cons (psd_if (ptd_cmp op_eq dr_eq (pd_ix (pdv 1) pd_int) pd_str) (pssd_one (psd_ret (pd_callH h__law_read_kept hr (pad_cons (pdv 1) pad_nil)))) pssd_nil)
      (pssd_cons (psd_set (i := 2) sc__law_read.nd (pd_disp (.cons pe_str pd_str (.cons pe_str pd_str (.cons pe_str pd_str (.cons pe_str pd_str .nil))))))
      (pssd_cons (psd_set (i := 3) sc__law_read.nd (pd_dget2 (hu_of hr) (pdv 2) (pd_ix (pdv 1) pd_int) pd_str))
      (pssd_cons (psd_if ((pwd_or (ptd_cmp op_eq dr_eq (pdv 3) pd_str) (pwd_or1 (ptd_cmp op_ne dr_ne (pd_callB cr_len dc_len T.b_len PySem.boot_len (pad_cons (pdv 1) pad_nil)) (pd_op op_addA dr_add (pd_callB cr_len dc_len T.b_len PySem.boot_len (pad_cons (pdv 3) pad_nil)) pd_int))))).pt (pssd_one (psd_ret pd_non)) pssd_nil)
      (pssd_cons (psd_setO (i := 4) sc__law_read.nd (pf_lst (pad_cons (pd_ix (pdv 1) pd_int) pad_nil)))
      (pssd_cons (psd_for PassesOwn.never rfl (pid_range1 T.b_range (pad_cons (pd_callB cr_len dc_len T.b_len PySem.boot_len (pad_cons (pdv 3) pad_nil)) pad_nil)) (pgd_name (i := 5) sc__law_read.nd) (pssd_cons (psd_set (i := 6) sc__law_read.nd (pd_ix (pdv 1) (pd_op op_addA dr_add (pdv 5) pd_int)))
      (pssd_cons (psd_if (ptd_cmp op_eq dr_eq (pd_ix (pdv 3) (pdv 5)) pd_str) (pssd_cons (psd_set (i := 6) sc__law_read.nd (pd_callH h__law_number hr (pad_cons (pd_ix (pdv 1) (pd_op op_addA dr_add (pdv 5) pd_int)) pad_nil)))
      (pssd_one (psd_if (ptd_cmp op_lt dr_lt (pdv 6) pd_int) (pssd_one (psd_ret pd_non)) pssd_nil))) (pssd_one (psd_if (ptd_not (ptd_truth (pd_callH h__law_is_name hr (pad_cons (pdv 6) pad_nil)))) (pssd_one (psd_ret pd_non)) pssd_nil)))
      (pssd_one (psd_append 4 (pdv 6))))))
      (pssd_one (psd_ret (pd_callTO cr_tuple dco_tuple T.b_tuple PyProof.Rows.boot_tuple (plv 4)))))))))))⟩
theorem sc__law_signs_changed : FnScope N__law_signs_changed ["line", "draws"] (defScope s__law_signs_changed) := ⟨rfl, rfl, rfl, by decide +kernel, rfl, by decide +kernel, by decide +kernel⟩
theorem has__law_signs_changed (T : Txt K mg) (A : At K mg "_law_signs_changed" s__law_signs_changed ["line", "draws"]) : Has P w K mg base 1 "_law_signs_changed" ["line", "draws"] m__law_signs_changed := 
  At.has (k := 0) A sc__law_signs_changed fun f cdv Ar outer s H E hr => ⟨_, (pssd_cons (psd_set (i := 2) sc__law_signs_changed.nd pd_str)
      (pssd_cons (psd_set (i := 3) sc__law_signs_changed.nd (pd_ix (pdv 2) (pd_op op_mod dr_mod (pd_callT cr_int dc_int T.b_int PyProof.Rows.boot_int (pad_cons (pd_ix (pdv 1) pd_int) pad_nil)) (pd_callB cr_len dc_len T.b_len PySem.boot_len (pad_cons (pdv 2) pad_nil)))))
      (pssd_cons (psd_if (ptd_cmp op_gt dr_gt (pd_op op_mod dr_mod (pd_callT cr_int dc_int T.b_int PyProof.Rows.boot_int (pad_cons (pd_ix (pdv 1) pd_int) pad_nil)) pd_int) pd_int) (pssd_one (psd_set (i := 3) sc__law_signs_changed.nd (pd_ix pd_str (pd_op op_mod dr_mod (pd_callT cr_int dc_int T.b_int PyProof.Rows.boot_int (pad_cons (pd_ix (pdv 1) pd_int) pad_nil)) pd_int)))) pssd_nil)
      (pssd_cons (psd_set (i := 4) sc__law_signs_changed.nd (pd_op op_mod dr_mod (pd_callT cr_int dc_int T.b_int PyProof.Rows.boot_int (pad_cons (pd_ix (pdv 1) pd_int) pad_nil)) (pd_op op_addA dr_add (pd_callB cr_len dc_len T.b_len PySem.boot_len (pad_cons (pdv 0) pad_nil)) pd_int)))
      (pssd_cons (psd_set (i := 5) sc__law_signs_changed.nd (pd_op op_mod dr_mod (pd_callT cr_int dc_int T.b_int PyProof.Rows.boot_int (pad_cons (pd_ix (pdv 1) pd_int) pad_nil)) pd_int))
      (pssd_cons (psd_if ((pwd_or (ptd_cmp op_eq dr_eq (pdv 5) pd_int) (pwd_or1 (ptd_cmp op_eq dr_eq (pdv 4) (pd_callB cr_len dc_len T.b_len PySem.boot_len (pad_cons (pdv 0) pad_nil)))))).pt (pssd_one (psd_ret (pd_op op_addA dr_add (pd_op op_addA dr_add (pd_slice (pdv 0) pod_none (pod_some (pdv 4))) (pdv 3)) (pd_slice (pdv 0) (pod_some (pdv 4)) pod_none)))) pssd_nil)
      (pssd_cons (psd_if (ptd_cmp op_eq dr_eq (pdv 5) pd_int) (pssd_one (psd_ret (pd_op op_addA dr_add (pd_slice (pdv 0) pod_none (pod_some (pdv 4))) (pd_slice (pdv 0) (pod_some (pd_op op_addA dr_add (pdv 4) pd_int)) pod_none)))) pssd_nil)
      (pssd_cons (psd_if (ptd_cmp op_eq dr_eq (pdv 5) pd_int) (pssd_one (psd_ret (pd_op op_addA dr_add (pd_op op_addA dr_add (pd_slice (pdv 0) pod_none (pod_some (pdv 4))) (pd_ix (pdv 0) (pdv 4))) (pd_slice (pdv 0) (pod_some (pdv 4)) pod_none)))) pssd_nil)
      (pssd_cons (psd_if (ptd_cmp op_eq dr_eq (pdv 5) pd_int) (pssd_one (psd_ret (pd_op op_addA dr_add (pd_op op_addA dr_add (pd_slice (pdv 0) pod_none (pod_some (pdv 4))) (pdv 3)) (pd_slice (pdv 0) (pod_some (pd_op op_addA dr_add (pdv 4) pd_int)) pod_none)))) pssd_nil)
      (pssd_one (psd_ret (pd_op op_addA dr_add (pd_op op_addA dr_add (pd_op op_addA dr_add (pd_slice (pdv 0) pod_none (pod_some (pdv 4))) (pd_slice (pdv 0) (pod_some (pd_op op_addA dr_add (pdv 4) pd_int)) (pod_some (pd_op op_addA dr_add (pdv 4) pd_int)))) (pd_ix (pdv 0) (pdv 4))) (pd_slice (pdv 0) (pod_some (pd_op op_addA dr_add (pdv 4) pd_int)) pod_none)))))))))))))⟩
theorem sc__law_words_changed : FnScope N__law_words_changed ["line", "draws"] (defScope s__law_words_changed) := ⟨rfl, rfl, rfl, by decide +kernel, rfl, by decide +kernel, by decide +kernel⟩
theorem has__law_words_changed (T : Txt K mg) (A : At K mg "_law_words_changed" s__law_words_changed ["line", "draws"]) : Has P w K mg base 1 "_law_words_changed" ["line", "draws"] m__law_words_changed := 
  At.has (k := 0) A sc__law_words_changed fun f cdv Ar outer s H E hr => ⟨_, (pssd_cons (psd_setO (i := 2) sc__law_words_changed.nd (pf_split (pdv 0) pd_str))
      (pssd_cons (psd_set (i := 3) sc__law_words_changed.nd (pd_op op_mod dr_mod (pd_callT cr_int dc_int T.b_int PyProof.Rows.boot_int (pad_cons (pd_ix (pdv 1) pd_int) pad_nil)) (pd_callBO cr_len dco_len T.b_len PySem.boot_len (plv 2))))
      (pssd_cons (psd_set (i := 4) sc__law_words_changed.nd (pd_op op_mod dr_mod (pd_callT cr_int dc_int T.b_int PyProof.Rows.boot_int (pad_cons (pd_ix (pdv 1) pd_int) pad_nil)) (pd_callBO cr_len dco_len T.b_len PySem.boot_len (plv 2))))
      (pssd_cons (psd_set (i := 5) sc__law_words_changed.nd (pd_op op_mod dr_mod (pd_callT cr_int dc_int T.b_int PyProof.Rows.boot_int (pad_cons (pd_ix (pdv 1) pd_int) pad_nil)) pd_int))
      (pssd_cons (psd_if (ptd_cmp op_eq dr_eq (pdv 5) pd_int) (pssd_cons (psd_set (i := 6) sc__law_words_changed.nd (pd_ixO (i := 2) rfl (by first | exact Or.inl rfl | exact Or.inr (Or.inl rfl) | exact Or.inr (Or.inr rfl)) (pdv 3)))
      (pssd_cons (psd_put 2 (pdv 3) (pd_ixO (i := 2) rfl (by first | exact Or.inl rfl | exact Or.inr (Or.inl rfl) | exact Or.inr (Or.inr rfl)) (pdv 4)))
      (pssd_one (psd_put 2 (pdv 4) (pdv 6))))) (pssd_one (psd_if (ptd_cmp op_eq dr_eq (pdv 5) pd_int) (pssd_one (psd_setO (i := 2) sc__law_words_changed.nd (pf_cat (pf_sliceO (i := 2) pod_none (pod_some (pdv 3))) (pf_sliceO (i := 2) (pod_some (pd_op op_addA dr_add (pdv 3) pd_int)) pod_none)))) (pssd_one (psd_insert 2 (pdv 4) (pd_ixO (i := 2) rfl (by first | exact Or.inl rfl | exact Or.inr (Or.inl rfl) | exact Or.inr (Or.inr rfl)) (pdv 3)))))))
      (pssd_one (psd_ret (pd_join pd_str (plv 2)))))))))⟩
theorem sc_law : FnScope N_law ["script"] (defScope s_law) := ⟨rfl, rfl, rfl, by decide +kernel, rfl, by decide +kernel, by decide +kernel⟩
theorem law_ok {f : Addr} {fd : FuncData} (T : Txt K mg) (F : L2.Fun K "law" "law" s_law f fd) (h__law_cell : Has P w K mg base 1 "_law_cell" ["script", "k"] m__law_cell) (h__law_draws : Has P w K mg base 1 "_law_draws" ["cell", "count"] m__law_draws) (h__law_parts : Has P w K mg base 4 "_law_parts" ["kind", "draws"] m__law_parts) (h__law_line : Has P w K mg base 1 "_law_line" ["parts"] m__law_line) (h_line_of : Has P w K mg base 1 "line_of" ["parts"] m_line_of) (h__law_same : Has P w K mg base 12 "_law_same" ["one", "other"] (m__law_same 12)) (h_read_line : Has P w K mg base 3 "read_line" ["line"] m_read_line) (h__law_signs_changed : Has P w K mg base 1 "_law_signs_changed" ["line", "draws"] m__law_signs_changed) (h__law_words_changed : Has P w K mg base 1 "_law_words_changed" ["line", "draws"] m__law_words_changed) (h__law_read : Has P w K mg base 3 "_law_read" ["line"] m__law_read) (h__law_kept : Has P w K mg base 3 "_law_kept" ["draws"] m__law_kept) (h_kept_text : Has P w K mg base 2 "kept_text" ["cases"] m_kept_text) : FnOk P w K mg base CX0 13 f fd ["script"] (spD K m_law) :=
  Fun.okD (k := 12) F sc_law fun cdv Ar outer s H E hr => ⟨_, (pssd_cons (psd_for PassesOwn.never rfl (pid_range1 T.b_range (pad_cons pd_int pad_nil)) (pgd_name (i := 1) sc_law.nd) (pssd_cons (psd_set (i := 2) sc_law.nd (pd_callH h__law_draws hr (pad_cons (pd_op op_addA dr_add (pd_callH h__law_cell hr (pad_cons (pdv 0) (pad_cons (pdv 1) pad_nil))) (pd_op op_mul dr_mul pd_int (pdv 1))) (pad_cons pd_int pad_nil))))
      (pssd_cons (psd_set (i := 5) sc_law.nd (pd_callH h__law_parts hr (pad_cons (pd_op op_mod dr_mod (pd_callT cr_int dc_int T.b_int PyProof.Rows.boot_int (pad_cons (pdv 1) pad_nil)) pd_int) (pad_cons (pdv 2) pad_nil))))
      (pssd_cons (psd_set (i := 6) sc_law.nd (pd_callH h__law_line hr (pad_cons (pdv 5) pad_nil)))
      (pssd_cons (psd_if ((pwd_or (ptd_not (ptd_truth (pd_callH h__law_same hr (pad_cons (pdv 6) (pad_cons (pd_callH h_line_of hr (pad_cons (pdv 5) pad_nil)) pad_nil))))) (pwd_or1 (ptd_not (ptd_truth (pd_callH h__law_same hr (pad_cons (pdv 5) (pad_cons (pd_callH h_read_line hr (pad_cons (pdv 6) pad_nil)) pad_nil)))))))).pt (pssd_one (psd_ret pd_bl)) pssd_nil)
      (pssd_cons (psd_setLc (i := 7) (own := [("t", 10)]) rfl sc_law.nd (sw_true rfl rfl rfl (by decide +kernel)) (pid_range1 T.b_range (pad_cons pd_int pad_nil)) (blkOk_by (own := [("t", 10)]) (N := N_law) (sc := defScope s_law) (by decide +kernel)) (fun _ _ _ _ _ => (pgd_name (i := 10) sc_law.nd)) (fun _ _ _ _ _ => ptsd_nil) (fun _ _ _ _ _ => (pd_callH h__law_signs_changed hr (pad_cons (pdv 6) (pad_cons (pd_slice (pdv 2) (pod_some (pd_op op_addA dr_add pd_int (pd_op op_mul dr_mul pd_int (pdv 10)))) (pod_some (pd_op op_addA dr_add pd_int (pd_op op_mul dr_mul pd_int (pdv 10))))) pad_nil)))))
      (pssd_cons (psd_set (i := 7) sc_law.nd (pd_op op_addA dr_add (pdv 7) ((pf_lc (own := [("t", 10)]) rfl sc_law.nd (pid_range1 T.b_range (pad_cons pd_int pad_nil)) (blkOk_by (own := [("t", 10)]) (N := N_law) (sc := defScope s_law) (by decide +kernel)) (fun _ _ _ _ _ => (pgd_name (i := 10) sc_law.nd)) (fun _ _ _ _ _ => ptsd_nil) (fun _ _ _ _ _ => (pd_callH h__law_words_changed hr (pad_cons (pdv 6) (pad_cons (pd_slice (pdv 2) (pod_some (pd_op op_addA dr_add pd_int (pd_op op_mul dr_mul pd_int (pdv 10)))) (pod_some (pd_op op_addA dr_add pd_int (pd_op op_mul dr_mul pd_int (pdv 10))))) pad_nil)))))).pd))
      (pssd_one (psd_for PassesOwn.never rfl (pid_any (pd_op op_addA dr_add (pdv 7) ((pf_lst (pad_cons (pd_op op_addA dr_add (pdv 6) pd_str) (pad_cons (pd_op op_addA dr_add pd_str (pdv 6)) pad_nil)))).pd)) (pgd_name (i := 8) sc_law.nd) (pssd_cons (psd_set (i := 9) sc_law.nd (pd_callH h__law_read hr (pad_cons (pdv 8) pad_nil)))
      (pssd_cons (psd_if (ptd_not (ptd_truth (pd_callH h__law_same hr (pad_cons (pdv 9) (pad_cons (pd_callH h_read_line hr (pad_cons (pdv 8) pad_nil)) pad_nil))))) (pssd_one (psd_ret pd_bl)) pssd_nil)
      (pssd_one (psd_if ((pwd_and (ptd_cmp op_notN dr_notN (pdv 9) pd_non) (pwd_and1 (ptd_not (ptd_truth (pd_callH h__law_same hr (pad_cons (pdv 8) (pad_cons (pd_callH h_line_of hr (pad_cons (pdv 9) pad_nil)) pad_nil)))))))).pt (pssd_one (psd_ret pd_bl)) pssd_nil)))))))))))))
      (pssd_cons (psd_set (i := 2) sc_law.nd (pd_callH h__law_draws hr (pad_cons (pd_callH h__law_cell hr (pad_cons (pdv 0) (pad_cons pd_int pad_nil))) (pad_cons pd_int pad_nil))))
      (pssd_cons (psd_set (i := 3) sc_law.nd (pd_callTO cr_tuple dco_tuple T.b_tuple PyProof.Rows.boot_tuple ((pf_lc (own := [("k", 1)]) rfl sc_law.nd (pid_range1 T.b_range (pad_cons (pd_op op_mod dr_mod (pd_callT cr_int dc_int T.b_int PyProof.Rows.boot_int (pad_cons (pd_ix (pdv 2) pd_int) pad_nil)) pd_int) pad_nil)) (blkOk_by (own := [("k", 1)]) (N := N_law) (sc := defScope s_law) (by decide +kernel)) (fun _ _ _ _ _ => (pgd_name (i := 1) sc_law.nd)) (fun _ _ _ _ _ => ptsd_nil) (fun _ _ _ _ _ => (pd_callH h__law_kept hr (pad_cons (pd_slice (pdv 2) (pod_some (pd_op op_addA dr_add pd_int (pd_op op_mul dr_mul pd_int (pdv 1)))) (pod_some (pd_op op_addA dr_add pd_int (pd_op op_mul dr_mul pd_int (pdv 1))))) pad_nil))))).pl))
      (pssd_cons (psd_if ((pwd_and (ptd_cmp op_eq dr_eq (pd_op op_mod dr_mod (pd_callT cr_int dc_int T.b_int PyProof.Rows.boot_int (pad_cons (pd_ix (pdv 2) pd_int) pad_nil)) pd_int) pd_int) (pwd_and1 (ptd_truth (pdv 3))))).pt (pssd_one (psd_set (i := 3) sc_law.nd (pd_op op_addA dr_add (pdv 3) (pd_slice (pdv 3) pod_none (pod_some pd_int))))) pssd_nil)
      (pssd_cons (psd_setLc (i := 4) (own := [("k", 1)]) rfl sc_law.nd (sw_true rfl rfl rfl (by decide +kernel)) (pid_range1 T.b_range (pad_cons (pd_callB cr_len dc_len T.b_len PySem.boot_len (pad_cons (pdv 3) pad_nil)) pad_nil)) (blkOk_by (own := [("k", 1)]) (N := N_law) (sc := defScope s_law) (by decide +kernel)) (fun _ _ _ _ _ => (pgd_name (i := 1) sc_law.nd)) (fun _ _ _ _ _ => ptsd_nil) (fun _ _ _ _ _ => (pd_op op_addA dr_add (pd_callH h__law_line hr (pad_cons (pd_tup (pad_cons pd_str (pad_cons (pdv 1) (pad_cons (pd_ix (pd_ix (pdv 3) (pdv 1)) pd_int) (pad_cons (pd_ix (pd_ix (pdv 3) (pdv 1)) pd_int) pad_nil))))) pad_nil)) pd_str)))
      (pssd_one (psd_ret (pd_callH h__law_same hr (pad_cons (pd_join pd_str ((pdv 4)).pl) (pad_cons (pd_callH h_kept_text hr (pad_cons (pdv 3) pad_nil)) pad_nil))))))))))⟩
end
end K32

/-! EVALUATION: how the plain functions reckon -/
namespace DD
open PySem PySem.Spec PyProof.Rows L2

@[simp] theorem R.ite_bind {α β : Type} {c : Prop} [Decidable c] (x y : R α) (f : α → R β) : ((if c then x else y) >>= f) = if c then x >>= f else y >>= f := by split <;> rfl
theorem R.bind_asc {α β γ : Type} (x : R α) (f : α → R β) (g : β → R γ) : ((x >>= f) >>= g) = x >>= fun a => f a >>= g := by cases x <;> rfl
/-- R.ok_bind, but not by unfolding -/
theorem R.okb {α β : Type} (a : α) (f : α → R β) : (R.ok a >>= f) = f a := Eq.trans (b := f a) rfl (Eq.refl _)
@[simp] theorem guardR_t : guardR true = .ok () := rfl
@[simp] theorem guardR_f : guardR false = .bad := rfl
theorem guardR_of {b : Bool} (h : b = true) : guardR b = .ok () := by rw [h]; rfl
theorem small_of {n : Nat} (h : n ≤ 16777216) : small n = true := decide_eq_true h

def seqK (g : En → R Out) : Out → R Out
  | .nx ρ => g ρ
  | o => .ok o
@[simp] theorem seqK_nx (g : En → R Out) (ρ : En) : seqK g (.nx ρ) = g ρ := rfl
@[simp] theorem seqK_rt (g : En → R Out) (d : D) : seqK g (.rt d) = .ok (.rt d) := rfl
@[simp] theorem seqK_bk (g : En → R Out) (ρ : En) : seqK g (.bk ρ) = .ok (.bk ρ) := rfl
@[simp] theorem seqK_ct (g : En → R Out) (ρ : En) : seqK g (.ct ρ) = .ok (.ct ρ) := rfl
@[simp] theorem sSeq_ap (f g : En → R Out) (ρ : En) : sSeq f g ρ = f ρ >>= seqK g := by
  unfold sSeq
  cases f ρ with
  | ok o => cases o <;> rfl
  | err x => rfl
  | bad => rfl
@[simp] theorem sNext_ap (ρ : En) : sNext ρ = .ok (.nx ρ) := rfl
@[simp] theorem sRet_ap (f : En → R D) (ρ : En) : sRet f ρ = f ρ >>= fun d => .ok (.rt d) := rfl
@[simp] theorem sIf_ap (c : En → R Bool) (f g : En → R Out) (ρ : En) : sIf c f g ρ = c ρ >>= fun b => if b = true then f ρ else g ρ := rfl
@[simp] theorem sSet_ap (i : Nat) (f : En → R D) (ρ : En) : sSet i f ρ = f ρ >>= fun d => .ok (.nx (ρ.set i (.fz d))) := rfl
@[simp] theorem sSetO_ap (i : Nat) (f : En → R (List D)) (ρ : En) : sSetO i f ρ = f ρ >>= fun ds => .ok (.nx (ρ.set i (.ow ds))) := rfl
@[simp] theorem sFrz_ap (i : Nat) (g : En → R Out) (ρ : En) : sFrz i g ρ = g (frz i ρ) := rfl
@[simp] theorem sApp_ap (i : Nat) (f : En → R D) (ρ : En) : sApp i f ρ = eOwn i ρ >>= fun ds => f ρ >>= fun d => guardR (decide (ds.length < 16777216)) >>= fun _ => .ok (.nx (ρ.set i (.ow (ds ++ [d])))) := rfl
@[simp] theorem sFor_ap (src : En → R (List D)) (tg : D → En → R En) (body : En → R Out) (ρ : En) : sFor src tg body ρ = src ρ >>= fun ds => forR tg body ds ρ := rfl
@[simp] theorem frz_ow0 (ds : List D) (ρ : En) : frz 0 (.ow ds :: ρ) = .fz (.lst ds) :: ρ := rfl
@[simp] theorem frz_s (i : Nat) (s : Sl) (ρ : En) : frz (i + 1) (s :: ρ) = s :: frz i ρ := by
  simp only [frz, List.getElem?_cons_succ, List.set_cons_succ]
  cases h : ρ[i]? with
  | none => rfl
  | some t => cases t <;> rfl
@[simp] theorem eVar_z (d : D) (ρ : En) : eVar 0 (.fz d :: ρ) = .ok d := rfl
@[simp] theorem eVar_s (i : Nat) (s : Sl) (ρ : En) : eVar (i + 1) (s :: ρ) = eVar i ρ := rfl
@[simp] theorem eOwn_z (d : List D) (ρ : En) : eOwn 0 (.ow d :: ρ) = .ok d := rfl
@[simp] theorem eOwn_s (i : Nat) (s : Sl) (ρ : En) : eOwn (i + 1) (s :: ρ) = eOwn i ρ := rfl
@[simp] theorem eC_ap (d : D) (ρ : En) : eC d ρ = .ok d := rfl
@[simp] theorem eBin_ap (g : D → D → R D) (a b : En → R D) (ρ : En) : eBin g a b ρ = a ρ >>= fun x => b ρ >>= fun y => g x y := rfl
@[simp] theorem eCall_ap (g : List D → R D) (f : En → R (List D)) (ρ : En) : eCall g f ρ = f ρ >>= g := rfl
@[simp] theorem eNil_ap (ρ : En) : eNil ρ = .ok [] := rfl
@[simp] theorem eCons_ap (a : En → R D) (r : En → R (List D)) (ρ : En) : eCons a r ρ = a ρ >>= fun x => r ρ >>= fun xs => .ok (x :: xs) := rfl
@[simp] theorem eTup_ap (f : En → R (List D)) (ρ : En) : eTup f ρ = f ρ >>= fun ds => guardR (small ds.length) >>= fun _ => .ok (.tup ds) := rfl
@[simp] theorem eLst_ap (f : En → R (List D)) (ρ : En) : eLst f ρ = f ρ >>= fun ds => guardR (small ds.length) >>= fun _ => .ok ds := rfl
@[simp] theorem toLst_ap (f : En → R (List D)) (ρ : En) : toLst f ρ = f ρ >>= fun ds => .ok (.lst ds) := rfl
@[simp] theorem ofLst_lst (ds : List D) : ofLst (.lst ds) = .ok ds := rfl
@[simp] theorem tst_ap (f : En → R D) (ρ : En) : tst f ρ = f ρ >>= asB := rfl
@[simp] theorem asB_bl (b : Bool) : asB (.bl b) = .ok b := rfl
@[simp] theorem truD_bl (b : Bool) : truD (.bl b) = .ok b := rfl
@[simp] theorem bYes_ap (ρ : En) : bYes ρ = .ok true := rfl
@[simp] theorem bAnd_ap (f g : En → R Bool) (ρ : En) : bAnd f g ρ = f ρ >>= fun b => if b = true then g ρ else .ok false := rfl
@[simp] theorem bOr_ap (f g : En → R Bool) (ρ : En) : bOr f g ρ = f ρ >>= fun b => if b = true then .ok true else g ρ := rfl
@[simp] theorem bNot_ap (f : En → R Bool) (ρ : En) : bNot f ρ = f ρ >>= fun b => .ok (!b) := rfl
@[simp] theorem vAnd_ap (f g : En → R D) (ρ : En) : vAnd f g ρ = f ρ >>= fun d => asB d >>= fun b => if b = true then g ρ else .ok (.bl false) := rfl
@[simp] theorem vOr_ap (f g : En → R D) (ρ : En) : vOr f g ρ = f ρ >>= fun d => asB d >>= fun b => if b = true then .ok (.bl true) else g ρ := rfl
@[simp] theorem eChain_ap (g g' : D → D → R D) (a b c : En → R D) (ρ : En) : eChain g g' a b c ρ = a ρ >>= fun x => b ρ >>= fun y => g x y >>= fun z => asB z >>= fun k => if k = true then c ρ >>= fun w => g' y w else .ok (.bl false) := rfl
@[simp] theorem dAdd_i (i j : Int) : dAdd (.int i) (.int j) = .ok (.int (i + j)) := rfl
theorem dAdd_sg (a b : Str) : dAdd (.str a) (.str b) = guardR (small (a.length + b.length)) >>= fun _ => .ok (.str (a ++ b)) := rfl
theorem dAdd_s {a b : Str} (h : a.length + b.length ≤ 16777216) : dAdd (.str a) (.str b) = .ok (.str (a ++ b)) := by rw [dAdd_sg, small_of h]; rfl
theorem dAdd_l {a b : List D} (h : a.length + b.length ≤ 16777216) : dAdd (.lst a) (.lst b) = .ok (.lst (a ++ b)) := by
  show (guardR (small (a.length + b.length)) >>= fun _ => R.ok (D.lst (a ++ b))) = _
  rw [small_of h]; rfl
theorem dAdd_t {a b : List D} (h : a.length + b.length ≤ 16777216) : dAdd (.tup a) (.tup b) = .ok (.tup (a ++ b)) := by
  show (guardR (small (a.length + b.length)) >>= fun _ => R.ok (D.tup (a ++ b))) = _
  rw [small_of h]; rfl
@[simp] theorem dSub_i (i j : Int) : dSub (.int i) (.int j) = .ok (.int (i - j)) := rfl
theorem dMul_i {i j : Int} (h : (within64 i || within64 j) = true) : dMul (.int i) (.int j) = .ok (.int (i * j)) := by
  show (guardR (within64 i || within64 j) >>= fun _ => R.ok (D.int (i * j))) = _
  rw [h]; rfl
theorem dMod_i {i j : Int} (h : 0 < j) : dMod (.int i) (.int j) = .ok (.int (i % j)) := by
  show (guardR (decide (0 < j)) >>= fun _ => R.ok (D.int (i % j))) = _
  rw [decide_eq_true h]; rfl
theorem dFdiv_i {i j : Int} (h : 0 < j) (h2 : j < 1073741824) : dFdiv (.int i) (.int j) = .ok (.int (i / j)) := by
  show (guardR (decide (0 < j) && decide (j < 1073741824)) >>= fun _ => R.ok (D.int (i / j))) = _
  rw [decide_eq_true h, decide_eq_true h2]; rfl
@[simp] theorem dLt_i (i j : Int) : dLt (.int i) (.int j) = .ok (.bl (decide (i < j))) := rfl
@[simp] theorem dLe_i (i j : Int) : dLe (.int i) (.int j) = .ok (.bl (decide (i ≤ j))) := rfl
@[simp] theorem dGt_i (i j : Int) : dGt (.int i) (.int j) = .ok (.bl (decide (j < i))) := rfl
@[simp] theorem dGe_i (i j : Int) : dGe (.int i) (.int j) = .ok (.bl (decide (j ≤ i))) := rfl
@[simp] theorem dEq_i (i j : Int) : dEq (.int i) (.int j) = .ok (.bl (i == j)) := rfl
@[simp] theorem dEq_s (i j : Str) : dEq (.str i) (.str j) = .ok (.bl (i == j)) := rfl
@[simp] theorem dEq_b (i j : Bool) : dEq (.bl i) (.bl j) = .ok (.bl (i == j)) := rfl
@[simp] theorem dNe_i (i j : Int) : dNe (.int i) (.int j) = .ok (.bl (!(i == j))) := rfl
@[simp] theorem dNe_s (i j : Str) : dNe (.str i) (.str j) = .ok (.bl (!(i == j))) := rfl
@[simp] theorem dIsN_n (x : D) : dIsN x .non = .ok (.bl (isNon x)) := rfl
@[simp] theorem dNotN_n (x : D) : dNotN x .non = .ok (.bl (!isNon x)) := rfl
theorem dLen_s {z : Str} (h : z.length ≤ 16777216) : dLen [.str z] = .ok (.int z.length) := by
  show (guardR (small z.length) >>= fun _ => R.ok (D.int z.length)) = _
  rw [small_of h]; rfl
@[simp] theorem dLen_t (ds : List D) : dLen [.tup ds] = .ok (.int ds.length) := rfl
@[simp] theorem dLen_l (ds : List D) : dLen [.lst ds] = .ok (.int ds.length) := rfl
@[simp] theorem dLen_r (ds : List D) : dLen [.rol ds] = .ok (.int ds.length) := rfl
@[simp] theorem dLenL_ap (ds : List D) : dLenL ds = .ok (.int ds.length) := rfl
@[simp] theorem dAbs_i (i : Int) : dAbs [.int i] = .ok (.int (if i < 0 then -i else i)) := rfl
@[simp] theorem dInt_i (i : Int) : dInt [.int i] = .ok (.int i) := rfl
theorem dInt_s {s : Str} {n : Int} (h : PySem.intText? s = some n) (hl : s.length ≤ 640) : dInt [.str s] = .ok (.int n) := by
  show (match PySem.intText? s with | some n => guardR (decide (s.length ≤ 640)) >>= fun _ => R.ok (D.int n) | none => R.bad) = _
  rw [h, decide_eq_true hl]; rfl
theorem dStr_i {i : Int} (h : bits i = true) : dStr [.int i] = .ok (.str (toString i)) := by
  show (guardR (bits i) >>= fun _ => R.ok (D.str (toString i))) = _
  rw [h]; rfl
@[simp] theorem dStr_s (s : Str) : dStr [.str s] = .ok (.str s) := rfl
@[simp] theorem dTupL_ap (ds : List D) : dTupL ds = .ok (.tup ds) := rfl
@[simp] theorem dIsi_ap (T : String) (d : D) : dIsi T d = match kitB (tyName d) T with
  | some b => .ok (.bl b)
  | none => .bad := rfl
@[simp] theorem dNeg_i (i : Int) : dNeg (.int i) = .ok (.int (-i)) := rfl
theorem atR_of {α : Type} {xs : List α} {n : Nat} {x : α} (h : xs[n]? = some x) : atR xs (n : Int) = .ok x := by
  have hn : n < xs.length := (List.getElem?_eq_some_iff.mp h).1
  unfold atR atI ixN
  rw [if_pos (by omega), if_pos (by omega)]
  simp [h]
theorem dIx_t {ds : List D} {n : Nat} {x : D} (h : ds[n]? = some x) : dIx (.tup ds) (.int (n : Nat)) = .ok x := atR_of h
theorem dIx_l {ds : List D} {n : Nat} {x : D} (h : ds[n]? = some x) : dIx (.lst ds) (.int (n : Nat)) = .ok x := atR_of h
theorem dIx_r {ds : List D} {n : Nat} {x : D} (h : ds[n]? = some x) : dIx (.rol ds) (.int (n : Nat)) = .ok x := atR_of h
theorem dIx_s {z : Str} {n : Nat} {c : Nat} (hz : z.length ≤ 16777216) (h : z.cps.toList[n]? = some c) : dIx (.str z) (.int (n : Nat)) = .ok (.str ⟨#[c]⟩) := by
  show (guardR (small z.length) >>= fun _ => atR z.cps.toList (n : Int) >>= fun c => R.ok (D.str ⟨#[c]⟩)) = _
  rw [small_of hz, atR_of h]; rfl
@[simp] theorem tgN_ap (i : Nat) (d : D) (ρ : En) : tgN i d ρ = .ok (ρ.set i (.fz d)) := rfl
@[simp] theorem tgsNil_ap (ρ : En) : tgsNil [] ρ = .ok ρ := rfl
@[simp] theorem tgsCons_ap (f : D → En → R En) (g : List D → En → R En) (d : D) (r : List D) (ρ : En) : tgsCons f g (d :: r) ρ = f d ρ >>= fun ρ' => g r ρ' := rfl
@[simp] theorem tgT_ap (n : Nat) (f : List D → En → R En) (ds : List D) (ρ : En) : tgT n f (.tup ds) ρ = guardR (ds.length == n) >>= fun _ => f ds ρ := rfl
@[simp] theorem items_t (ds : List D) : items (.tup ds) = .ok ds := rfl
@[simp] theorem items_l (ds : List D) : items (.lst ds) = .ok ds := rfl
@[simp] theorem items_r (ds : List D) : items (.rol ds) = .ok ds := rfl
@[simp] theorem items_s (z : Str) : items (.str z) = .ok (z.cps.toList.map fun c => D.str ⟨#[c]⟩) := rfl
@[simp] theorem dIn_c (c : Nat) (z : Str) : dIn (.str ⟨#[c]⟩) (.str z) = .ok (.bl (decide (c ∈ z.cps.toList))) := rfl
@[simp] theorem dNotIn_c (c : Nat) (z : Str) : dNotIn (.str ⟨#[c]⟩) (.str z) = .ok (.bl (!decide (c ∈ z.cps.toList))) := rfl
@[simp] theorem noOwn_nil (ρ : En) : noOwn ρ [] = true := rfl
@[simp] theorem oNone_ap (ρ : En) : oNone ρ = .ok none := rfl
@[simp] theorem oSome_ap (f : En → R D) (ρ : En) : oSome f ρ = f ρ >>= asI := rfl
@[simp] theorem asI_i (i : Int) : asI (.int i) = .ok (some i) := rfl
@[simp] theorem eSl_ap (f : En → R D) (l h : En → R (Option Int)) (ρ : En) : eSl f l h ρ = f ρ >>= fun x => l ρ >>= fun lo => h ρ >>= fun hi => dSl x lo hi := rfl
@[simp] theorem eSlL_ap (f : En → R (List D)) (l h : En → R (Option Int)) (ρ : En) : eSlL f l h ρ = f ρ >>= fun x => l ρ >>= fun lo => h ρ >>= fun hi => .ok (cutD x lo hi) := rfl
@[simp] theorem dSl_t (ds : List D) (lo hi : Option Int) : dSl (.tup ds) lo hi = .ok (.tup (cutD ds lo hi)) := rfl
@[simp] theorem dSl_l (ds : List D) (lo hi : Option Int) : dSl (.lst ds) lo hi = .ok (.lst (cutD ds lo hi)) := rfl
@[simp] theorem dSl_r (ds : List D) (lo hi : Option Int) : dSl (.rol ds) lo hi = .ok (.lst (cutD ds lo hi)) := rfl
theorem dSl_s {z : Str} (h : z.length ≤ 16777216) (lo hi : Option Int) : dSl (.str z) lo hi = .ok (.str (cutS z lo hi)) := by
  show (guardR (small z.length) >>= fun _ => R.ok (D.str (cutS z lo hi))) = _
  rw [small_of h]; rfl
theorem dRev_s {z : Str} (h : z.length ≤ 16777216) : dRev (.str z) = .ok (.str (revS z)) := by
  show (guardR (small z.length) >>= fun _ => R.ok (D.str (revS z))) = _
  rw [small_of h]; rfl
theorem dSplit_s {a b : Str} (hb : b.length ≠ 0) (h : a.length ≤ 16000000) : dSplit (.str a) (.str b) = .ok ((Txt.split a b).map D.str) := by
  show (guardR (b.length != 0 && decide (a.length ≤ 16000000)) >>= fun _ => R.ok ((Txt.split a b).map D.str)) = _
  rw [decide_eq_true h, bne_iff_ne.mpr hb]; rfl
@[simp] theorem asStrs_map (l : List Str) : asStrs (l.map D.str) = .ok l := by
  induction l with
  | nil => rfl
  | cons a l ih => simp [asStrs, ih]
theorem asBls_map {α : Type} (f : α → Bool) (l : List α) : asBls (l.map fun a => D.bl (f a)) = .ok (l.map f) := by
  induction l with
  | nil => rfl
  | cons a l ih => simp [asBls, ih]
theorem asInts_map {α : Type} (f : α → Int) (l : List α) : asInts (l.map fun a => D.int (f a)) = .ok (l.map f) := by
  induction l with
  | nil => rfl
  | cons a l ih => simp [asInts, ih]
theorem dAll_map {α : Type} (f : α → Bool) (l : List α) : dAll (l.map fun a => D.bl (f a)) = .ok (.bl (l.all f)) := by
  unfold dAll
  rw [asBls_map]
  show R.ok (D.bl ((l.map f).all id)) = _
  rw [List.all_map]; rfl
theorem dAny_map {α : Type} (f : α → Bool) (l : List α) : dAny (l.map fun a => D.bl (f a)) = .ok (.bl (l.any f)) := by
  unfold dAny
  rw [asBls_map]
  show R.ok (D.bl ((l.map f).any id)) = _
  rw [List.any_map]; rfl
theorem dJoin_s {a : Str} {l : List Str} (h : (l.map (·.length)).sum + l.length * a.length ≤ 16777216) : dJoin (.str a) (l.map D.str) = .ok (.str (Txt.join a l)) := by
  unfold dJoin
  simp only [asStrs_map, R.ok_bind]
  rw [decide_eq_true h]; rfl
/-- a comprehension over a written list, each step known -/
theorem compR_map {α : Type} {tg : D → En → R En} {elt : En → R D} {ρ : En} {g f : α → D} : ∀ {l : List α}, (∀ a ∈ l, (tg (g a) ρ >>= elt) = .ok (f a)) → compR tg bYes elt ρ (l.map g) = .ok (l.map f)
  | [], _ => rfl
  | a :: l, h => by
    have h1 := h a (List.mem_cons_self ..)
    have ih := compR_map (l := l) fun b hb => h b (List.mem_cons_of_mem _ hb)
    show (tg (g a) ρ >>= fun ρ1 => bYes ρ1 >>= fun b => if b = true then elt ρ1 >>= fun x => compR tg bYes elt ρ (l.map g) >>= fun xs => .ok (x :: xs) else compR tg bYes elt ρ (l.map g)) = _
    cases e : tg (g a) ρ with
    | ok ρ1 =>
      rw [e] at h1
      have h2 : elt ρ1 = .ok (f a) := h1
      simp [h2, ih]
    | err x => rw [e] at h1; cases h1
    | bad => rw [e] at h1; cases h1
/-- the same, of the whole comprehension -/
theorem eComp_map {α : Type} {src : En → R (List D)} {vs : List Nat} {tg : D → En → R En} {elt : En → R D} {ρ : En} {g f : α → D} {l : List α} (hs : src ρ = .ok (l.map g)) (hn : noOwn ρ vs = true) (hl : l.length < 16777216) (h : ∀ a ∈ l, (tg (g a) (wipeE ρ vs) >>= elt) = .ok (f a)) :
    eComp src vs tg bYes elt ρ = .ok (l.map f) := by
  unfold eComp
  rw [hs]
  simp only [R.ok_bind, hn, List.length_map, decide_eq_true hl, Bool.and_true, guardR_t]
  exact compR_map h
def outK : Out → R D
  | .rt d => .ok d
  | .nx _ => .ok .non
  | _ => .bad
@[simp] theorem outK_rt (d : D) : outK (.rt d) = .ok d := rfl
@[simp] theorem outK_nx (ρ : En) : outK (.nx ρ) = .ok .non := rfl
theorem runD_of {n k : Nat} {b : En → R Out} {ds : List D} (h : ds.length = n) : runD n k b ds = b (ds.map Sl.fz ++ List.replicate k .un) >>= fun o => match o with
    | .rt d => .ok d
    | .nx _ => .ok .non
    | _ => .bad := by
  unfold runD
  rw [show (ds.length == n) = true from beq_iff_eq.mpr h]; rfl
/-! step by step, nothing carried along -/
theorem seq_go {α : Type} {f g : En → R Out} {ρ ρ' : En} {k : Out → R α} {r : R α} (h : f ρ = .ok (.nx ρ')) (n : (g ρ' >>= k) = r) : (sSeq f g ρ >>= k) = r := by
  rw [sSeq_ap, h]
  exact n
theorem seq_rt {f g : En → R Out} {ρ : En} {d : D} (h : f ρ = .ok (.rt d)) : (sSeq f g ρ >>= outK) = .ok d := by
  rw [sSeq_ap, h]
  rfl
theorem seq_go' {f g : En → R Out} {ρ ρ' : En} {r : R Out} (h : f ρ = .ok (.nx ρ')) (n : g ρ' = r) : sSeq f g ρ = r := by
  rw [sSeq_ap, h]
  exact n
theorem seq_rt' {f g : En → R Out} {ρ : En} {d : D} (h : f ρ = .ok (.rt d)) : sSeq f g ρ = .ok (.rt d) := by
  rw [sSeq_ap, h]
  rfl
theorem if_t {f g : En → R Out} {ρ : En} {c : En → R Bool} {r : R Out} (h : c ρ = .ok true) (n : f ρ = r) : sIf c f g ρ = r := by
  rw [sIf_ap, h]
  exact n
theorem if_f {f g : En → R Out} {ρ : En} {c : En → R Bool} {r : R Out} (h : c ρ = .ok false) (n : g ρ = r) : sIf c f g ρ = r := by
  rw [sIf_ap, h]
  exact n
theorem ret_of {f : En → R D} {ρ : En} {d : D} (h : f ρ = .ok d) : sRet f ρ = .ok (.rt d) := by
  rw [sRet_ap, h]
  rfl
theorem set_of {i : Nat} {f : En → R D} {ρ : En} {d : D} (h : f ρ = .ok d) : sSet i f ρ = .ok (.nx (ρ.set i (.fz d))) := by
  rw [sSet_ap, h]
  rfl
theorem setO_of {i : Nat} {f : En → R (List D)} {ρ : En} {ds : List D} (h : f ρ = .ok ds) : sSetO i f ρ = .ok (.nx (ρ.set i (.ow ds))) := by
  rw [sSetO_ap, h]
  rfl
theorem ret_out {f : En → R D} {ρ : En} {d : D} (h : f ρ = .ok d) : (sRet f ρ >>= outK) = .ok d := by
  rw [ret_of h]
  rfl
theorem out_rt {g : R Out} {d : D} (h : g = .ok (.rt d)) : (g >>= outK) = .ok d := by
  rw [h]
  rfl
theorem runD1 {k : Nat} {b : En → R Out} (x : D) : runD 1 k b [x] = b (.fz x :: List.replicate k .un) >>= outK := by
  refine (runD_of rfl).trans ?_
  show (b (.fz x :: List.replicate k .un) >>= _) = _
  rfl
theorem runD2 {k : Nat} {b : En → R Out} (x y : D) : runD 2 k b [x, y] = b (.fz x :: .fz y :: List.replicate k .un) >>= outK := by
  refine (runD_of rfl).trans ?_
  show (b (.fz x :: .fz y :: List.replicate k .un) >>= _) = _
  rfl
/-- a loop whose body goes on each time: an invariant over what has been walked -/
theorem forR_go {α : Type} {tg : D → En → R En} {body : En → R Out} {g : α → D} (st : List α → En) : ∀ (l pre : List α), (∀ p a s, pre ++ l = p ++ a :: s → (tg (g a) (st p) >>= body) = .ok (.nx (st (p ++ [a])))) → forR tg body (l.map g) (st pre) = .ok (.nx (st (pre ++ l)))
  | [], pre, _ => by rw [List.append_nil]; rfl
  | a :: l, pre, h => by
    have h1 := h pre a l rfl
    have ih := forR_go st l (pre ++ [a]) fun p b s e => h p b s (by rw [← e, List.append_assoc]; rfl)
    rw [List.append_assoc] at ih
    show (tg (g a) (st pre) >>= fun ρ1 => body ρ1 >>= fun o => match o with
      | .nx ρ2 => forR tg body (l.map g) ρ2
      | .ct ρ2 => forR tg body (l.map g) ρ2
      | .bk ρ2 => .ok (.nx ρ2)
      | .rt d => .ok (.rt d)) = _
    cases e : tg (g a) (st pre) with
    | ok ρ1 =>
      rw [e] at h1
      have h2 : body ρ1 = .ok (.nx (st (pre ++ [a]))) := h1
      simp only [R.ok_bind, h2]
      exact ih
    | err x => rw [e] at h1; cases h1
    | bad => rw [e] at h1; cases h1
theorem forR_cons {tg : D → En → R En} {body : En → R Out} (d : D) (ds : List D) (ρ : En) : forR tg body (d :: ds) ρ = tg d ρ >>= fun ρ1 => body ρ1 >>= fun o => match o with
    | .nx ρ2 => forR tg body ds ρ2
    | .ct ρ2 => forR tg body ds ρ2
    | .bk ρ2 => .ok (.nx ρ2)
    | .rt d => .ok (.rt d) := rfl
theorem forR_nx {tg : D → En → R En} {body : En → R Out} {d : D} {ds : List D} {ρ ρ' : En} (h : (tg d ρ >>= body) = .ok (.nx ρ')) : forR tg body (d :: ds) ρ = forR tg body ds ρ' := by
  rw [forR_cons]
  cases e : tg d ρ with
  | ok ρ1 =>
    rw [e] at h
    have h2 : body ρ1 = .ok (.nx ρ') := h
    simp only [R.ok_bind, h2]
  | err x => rw [e] at h; cases h
  | bad => rw [e] at h; cases h
theorem forR_rt {tg : D → En → R En} {body : En → R Out} {d : D} {ds : List D} {ρ : En} {r : D} (h : (tg d ρ >>= body) = .ok (.rt r)) : forR tg body (d :: ds) ρ = .ok (.rt r) := by
  rw [forR_cons]
  cases e : tg d ρ with
  | ok ρ1 =>
    rw [e] at h
    have h2 : body ρ1 = .ok (.rt r) := h
    simp only [R.ok_bind, h2]
  | err x => rw [e] at h; cases h
  | bad => rw [e] at h; cases h
end DD

/-! TEXTS: cut and glue, numbers written and read -/
namespace TX
open PySem PySem.Spec PyProof.Rows L2 DD TL

theorem pre1 (s c : Nat) (r : List Nat) : pre [s] (c :: r) = (c == s) := by
  show ([c] == [s]) = (c == s)
  simp [BEq.beq, List.beq]
theorem spl1_hit {s : Nat} {acc r : List Nat} : spl [s] 0 acc (s :: r) = acc :: spl [s] 0 [] r := spl_hit (by rw [pre1]; simp)
theorem spl1_miss {s c : Nat} {acc r : List Nat} (h : c ≠ s) : spl [s] 0 acc (c :: r) = spl [s] 0 (acc ++ [c]) r := spl_miss (by rw [pre1]; simpa using h)
theorem spl1_ne (s : Nat) : ∀ (l acc : List Nat), spl [s] 0 acc l ≠ []
  | [], acc => by rw [spl_nil]; simp
  | c :: r, acc => by
    by_cases h : c = s
    · subst h; rw [spl1_hit]; simp
    · rw [spl1_miss h]; exact spl1_ne s r _
theorem joinL_cons {S p : List Nat} {l : List (List Nat)} (h : l ≠ []) : joinL S (p :: l) = p ++ (S ++ joinL S l) := by
  cases l with
  | nil => exact absurd rfl h
  | cons q r => rfl
theorem joinL_spl (s : Nat) : ∀ (l acc : List Nat), joinL [s] (spl [s] 0 acc l) = acc ++ l
  | [], acc => by rw [spl_nil, List.append_nil]; rfl
  | c :: r, acc => by
    by_cases h : c = s
    · subst h
      rw [spl1_hit, joinL_cons (spl1_ne c r []), joinL_spl c r []]; rfl
    · rw [spl1_miss h, joinL_spl s r, List.append_assoc]; rfl
theorem spl1_free (s : Nat) : ∀ (l acc : List Nat), s ∉ acc → ∀ p ∈ spl [s] 0 acc l, s ∉ p
  | [], acc, h, p, hp => by rw [spl_nil] at hp; rw [List.mem_singleton.mp hp]; exact h
  | c :: r, acc, h, p, hp => by
    by_cases e : c = s
    · subst e
      rw [spl1_hit] at hp
      rcases List.mem_cons.mp hp with rfl | hp
      · exact h
      · exact spl1_free c r [] (by simp) p hp
    · rw [spl1_miss e] at hp
      refine spl1_free s r (acc ++ [c]) ?_ p hp
      simp only [List.mem_append, List.mem_singleton, not_or]
      exact ⟨h, fun z => e z.symm⟩
theorem joinL_len (s : Nat) : ∀ (l : List (List Nat)), l ≠ [] → (l.map List.length).sum + l.length = (joinL [s] l).length + 1
  | [], h => absurd rfl h
  | [p], _ => by simp [joinL]
  | p :: q :: r, _ => by
    have ih := joinL_len s (q :: r) (by simp)
    rw [joinL_cons (by simp)]
    simp only [List.map_cons, List.sum_cons, List.length_cons, List.length_append, List.length_nil] at ih ⊢
    omega

/-- a separator of one plain sign -/
structure Sep1 (y : Str) (s : Nat) : Prop where
  tl_ : tl y = [s]
  all : y.cps.all (· < 256) = true
theorem sep_sp : Sep1 " " 32 := ⟨by decide, by decide +kernel⟩
theorem sep_co : Sep1 "," 44 := ⟨by decide, by decide +kernel⟩
theorem sep_do : Sep1 "." 46 := ⟨by decide, by decide +kernel⟩
section
variable {x y : Str} {s : Nat}
theorem Sep1.len (h : Sep1 y s) : y.length = 1 := by rw [len_tl, h.tl_]; rfl
theorem split_tl (h : Sep1 y s) : (Txt.split x y).map tl = spl [s] 0 [] (tl x) := by
  have e := split_spl x y (by rw [h.tl_]; simp) (kind_ok h.all)
  rw [h.tl_] at e
  exact e
theorem split_ne (h : Sep1 y s) : Txt.split x y ≠ [] := fun e => by
  have z := split_tl (x := x) h
  rw [e] at z
  exact spl1_ne s (tl x) [] z.symm
theorem join_split (h : Sep1 y s) : Txt.join y (Txt.split x y) = x := by
  refine ext_tl ?_
  rw [join_eq, tl_join, split_tl h, h.tl_, joinL_spl]; rfl
theorem split_free (h : Sep1 y s) {p : Str} (hp : p ∈ Txt.split x y) : s ∉ tl p := by
  have z : tl p ∈ (Txt.split x y).map tl := List.mem_map_of_mem hp
  rw [split_tl h] at z
  exact spl1_free s (tl x) [] (by simp) _ z
theorem split_len (h : Sep1 y s) : ((Txt.split x y).map (·.length)).sum + (Txt.split x y).length = x.length + 1 := by
  have e := joinL_len s (spl [s] 0 [] (tl x)) (spl1_ne s _ _)
  rw [joinL_spl, ← split_tl (y := y) h, List.length_map, List.map_map, List.nil_append, ← len_tl] at e
  rw [← e]
  congr 2
  try exact congrArg List.sum (List.map_congr_left fun a _ => len_tl a)
theorem sum_ge : ∀ {l : List Str} {p : Str}, p ∈ l → p.length ≤ (l.map (·.length)).sum
  | a :: l, p, h => by
    rw [List.map_cons, List.sum_cons]
    rcases List.mem_cons.mp h with rfl | h
    · omega
    · have := sum_ge h; omega
theorem split_le (h : Sep1 y s) {p : Str} (hp : p ∈ Txt.split x y) : p.length ≤ x.length := by
  have e := split_len (x := x) h
  have n := List.length_pos_iff.mpr (split_ne (x := x) h)
  have z := sum_ge hp
  omega
theorem split_cnt (h : Sep1 y s) : (Txt.split x y).length ≤ x.length + 1 := by
  have e := split_len (x := x) h
  omega
theorem split_join1 (h : Sep1 y s) {l : List Str} (hn : l ≠ []) (hl : ∀ p ∈ l, s ∉ tl p) : Txt.split (Txt.join y l) y = l := split_join h.tl_ h.all hn hl
theorem join_len (h : Sep1 y s) {l : List Str} (hn : l ≠ []) : (l.map (·.length)).sum + l.length = (Txt.join y l).length + 1 := by
  have e := joinL_len s (l.map tl) (by simpa using hn)
  rw [← h.tl_, ← tl_join, ← join_eq, ← len_tl, List.length_map, List.map_map] at e
  rw [← e]
  congr 2
theorem join_cons {a b : Str} {l : List Str} : Txt.join y (a :: b :: l) = a ++ y ++ Txt.join y (b :: l) := by
  rw [join_eq, join_eq]; rfl
theorem join_one {a : Str} : Txt.join y [a] = a := by rw [join_eq]; rfl
theorem join_nil : Txt.join y [] = Str.empty := by rw [join_eq]; rfl
end

/-! ### numbers -/
abbrev dval (l : List Nat) : Nat := NumText.digitsVal l
theorem dval_snoc (l : List Nat) (c : Nat) : dval (l ++ [c]) = dval l * 10 + (c - 48) := by
  unfold dval NumText.digitsVal
  rw [List.foldl_append]; rfl
theorem dval_lt : ∀ (n : Nat) (l : List Nat), l.length = n → NumText.AllDigits l → dval l < 10 ^ n
  | 0, l, h, _ => by
    rw [List.length_eq_zero_iff.mp h]
    show 0 < 1
    omega
  | n + 1, l, h, hd => by
    have hne : l ≠ [] := fun e => by rw [e] at h; cases h
    obtain ⟨m, c, e⟩ : ∃ m c, l = m ++ [c] := ⟨l.dropLast, l.getLast hne, (List.dropLast_concat_getLast hne).symm⟩
    subst e
    rw [List.length_append, List.length_singleton] at h
    have ih := dval_lt n m (by omega) fun d hm => hd d (List.mem_append_left _ hm)
    have hc := hd c (List.mem_append_right _ (List.mem_singleton.mpr rfl))
    rw [dval_snoc, Nat.pow_succ]
    omega
theorem canon : ∀ (n : Nat) (l : List Nat), l.length = n → l ≠ [] → NumText.AllDigits l → l.head? ≠ some 48 → numL (dval l) = l ∧ 1 ≤ dval l
  | 0, l, h, hn, _, _ => absurd (List.length_eq_zero_iff.mp h) hn
  | n + 1, l, h, hn, hd, hh => by
    obtain ⟨m, c, e⟩ : ∃ m c, l = m ++ [c] := ⟨l.dropLast, l.getLast hn, (List.dropLast_concat_getLast hn).symm⟩
    subst e
    rw [List.length_append, List.length_singleton] at h
    have hc := hd c (List.mem_append_right _ (List.mem_singleton.mpr rfl))
    rw [dval_snoc]
    cases m with
    | nil =>
      have hc48 : c ≠ 48 := fun e => hh (by rw [e]; rfl)
      have e : dval [] * 10 + (c - 48) = c - 48 := by show 0 * 10 + _ = _; omega
      rw [e, numL_lt (by omega)]
      refine ⟨?_, by omega⟩
      show [48 + (c - 48)] = [c]
      rw [show 48 + (c - 48) = c by omega]
    | cons a m =>
      obtain ⟨i1, i2⟩ := canon n (a :: m) (by omega) (by simp) (fun d hm => hd d (List.mem_append_left _ hm)) (fun e => hh (by simpa using e))
      refine ⟨?_, by omega⟩
      rw [numL_step (by omega), show (dval (a :: m) * 10 + (c - 48)) / 10 = dval (a :: m) by omega, show 48 + (dval (a :: m) * 10 + (c - 48)) % 10 = c by omega, i1]
theorem numL_head (n : Nat) (h : 0 < n) : (numL n).head? ≠ some 48 := by
  induction n using Nat.strongRecOn with
  | _ n ih =>
    by_cases h9 : n < 10
    · rw [numL_lt h9]
      simp
      omega
    · rw [numL_step (by omega)]
      have hne := numL_ne (n / 10)
      have := ih (n / 10) (by omega) (by omega)
      cases e : numL (n / 10) with
      | nil => exact absurd e hne
      | cons a r => rw [e] at this; simpa using this
theorem bits_of {n : Nat} (h : n < 10 ^ 12) : bits (n : Int) = true := by
  unfold bits
  refine decide_eq_true ?_
  rw [Int.natAbs_natCast]
  by_cases h0 : n = 0
  · subst h0; decide
  · refine (Nat.log2_lt h0).mpr (Nat.lt_of_lt_of_le h ?_)
    exact Nat.le_trans (by decide : 10 ^ 12 ≤ 2 ^ 40) (Nat.pow_le_pow_right (by decide) (by decide))

theorem in62_nat {n : Nat} (h : n < 1000000) : in62 ((n : Nat) : Int) = true := by
  unfold in62
  rw [Bool.and_eq_true]
  have a : -(2 ^ 62) ≤ (0 : Int) := by decide
  have b : ((1000000 : Nat) : Int) ≤ 2 ^ 62 := by decide
  exact ⟨decide_eq_true (Int.le_trans a (Int.natCast_nonneg _)), decide_eq_true (Int.lt_of_lt_of_le (Int.ofNat_lt.mpr h) b)⟩
theorem rng_nat {n : Nat} (h : n < 1000000) : dRng1 [.int ((n : Nat) : Int)] = .ok ((List.range' 0 n).map fun (k : Nat) => D.int (0 + (k : Int))) := by
  show (guardR (in62 ((n : Nat) : Int)) >>= fun _ => R.ok (rngD 0 ((n : Nat) : Int).toNat)) = _
  rw [in62_nat h, Int.toNat_natCast]
  show R.ok (rngD 0 n) = _
  unfold rngD
  rw [List.range_eq_range']
theorem sFor_rng {f : En → R (List D)} {tg : D → En → R En} {body : En → R Out} {ρ : En} {i : Int} (n : Nat) (h : f ρ = .ok [.int i]) (hi : i = (n : Nat)) (hn : n < 1000000) : sFor (fun ρ => f ρ >>= dRng1) tg body ρ = forR tg body ((List.range' 0 n).map fun (k : Nat) => D.int (0 + (k : Int))) ρ := by
  rw [sFor_ap, h, hi, R.ok_bind, rng_nat hn, R.ok_bind]
/-! ### slices -/
theorem cutD_from (xs : List D) (a : Nat) : DD.cutD xs (some (a : Int)) none = xs.drop a := by
  unfold DD.cutD
  rw [HT.sIx_nat, HT.sIx_none]
  by_cases h : a ≤ xs.length
  · rw [Nat.min_eq_left h]
    exact List.take_of_length_le (by rw [List.length_drop]; omega)
  · rw [Nat.min_eq_right (by omega), List.drop_length, List.drop_of_length_le (by omega)]
    simp
theorem cutD_nn (xs : List D) (a b : Nat) : DD.cutD xs (some (a : Int)) (some (b : Int)) = (xs.drop a).take (b - a) := by
  unfold DD.cutD
  rw [HT.sIx_nat _ _ a, HT.sIx_nat _ _ b]
  by_cases h : a ≤ xs.length
  · rw [Nat.min_eq_left h]
    by_cases h2 : b ≤ xs.length
    · rw [Nat.min_eq_left h2]
    · rw [Nat.min_eq_right (by omega), List.take_of_length_le (by rw [List.length_drop]; omega), List.take_of_length_le (by rw [List.length_drop]; omega)]
  · rw [Nat.min_eq_right (by omega : xs.length ≤ a), List.drop_length, List.drop_of_length_le (by omega : xs.length ≤ a)]
    simp
theorem cutD_to (xs : List D) (b : Nat) : DD.cutD xs none (some (b : Int)) = xs.take b := by
  have e := cutD_nn xs 0 b
  rw [List.drop_zero, Nat.sub_zero] at e
  rw [← e]
  unfold DD.cutD
  rw [HT.sIx_none, HT.sIx_nat _ _ 0, HT.sIx_nat]
  simp
end TX

namespace K32
open PySem PySem.Spec PyProof.Rows L2 DD TL TX

abbrev LET : Str := "abcdefghijklmnopqrstuvwxyz"
abbrev FIG : Str := "0123456789"
def allIn (z w : Str) : Bool := (tl w).all fun c => decide (c ∈ tl z)
def len12 (w : Str) : Bool := decide ((0 : Int) < w.length) && decide ((w.length : Int) ≤ 12)
def nmT (w : Str) : Bool := len12 w && allIn LET w
def hd0 (w : Str) : Bool := (tl w).head? == some 48
def numT (w : Str) : Bool := len12 w && allIn FIG w && (!hd0 w || w == "0")
def val (w : Str) : Int := (dval (tl w) : Nat)

theorem comp_in {w z : Str} {i : Nat} {ρ : En} (hw : w.length ≤ 1000000) (hs : eVar 0 ρ = .ok (.str w)) (hn : noOwn ρ [i] = true) (hi : ∀ c, eVar i ((wipeE ρ [i]).set i (.fz (.str ⟨#[c]⟩))) = .ok (.str ⟨#[c]⟩)) :
    eComp (fun ρ => eVar 0 ρ >>= items) [i] (tgN i) bYes (eBin dIn (eVar i) (eC (.str z))) ρ = .ok ((tl w).map fun c => .bl (decide (c ∈ tl z))) := by
  refine eComp_map (g := fun c => D.str ⟨#[c]⟩) (by rw [hs]; rfl) hn (by rw [← len_tl]; omega) fun c _ => ?_
  simp [hi]
theorem comp_notin {w z : Str} {i : Nat} {ρ : En} (hw : w.length ≤ 1000000) (hs : eVar 0 ρ = .ok (.str w)) (hn : noOwn ρ [i] = true) (hi : ∀ c, eVar i ((wipeE ρ [i]).set i (.fz (.str ⟨#[c]⟩))) = .ok (.str ⟨#[c]⟩)) :
    eComp (fun ρ => eVar 0 ρ >>= items) [i] (tgN i) bYes (eBin dNotIn (eVar i) (eC (.str z))) ρ = .ok ((tl w).map fun c => .bl (!decide (c ∈ tl z))) := by
  refine eComp_map (g := fun c => D.str ⟨#[c]⟩) (by rw [hs]; rfl) hn (by rw [← len_tl]; omega) fun c _ => ?_
  simp [hi]

theorem is_name {w : Str} (hw : w.length ≤ 1000000) : m_is_name [.str w] = .ok (.bl (nmT w)) := by
  unfold m_is_name
  rw [runD1]
  simp only [b_is_name, sRet_ap, vAnd_ap, eChain_ap, eC_ap, eCall_ap, eCons_ap, eNil_ap, eVar_z, R.ok_bind, dLen_s (Nat.le_trans hw (by decide)), dLt_i, dLe_i, asB_bl, R.ite_bind]
  rw [comp_in hw rfl rfl (fun c => rfl)]
  simp only [R.ok_bind, dAll_map, nmT, len12, allIn]
  generalize decide ((0 : Int) < w.length) = a
  generalize decide ((w.length : Int) ≤ 12) = b
  cases a <;> cases b <;> rfl
theorem law_is_name {w : Str} (hw : w.length ≤ 1000000) : m__law_is_name [.str w] = .ok (.bl (nmT w)) := by
  unfold m__law_is_name
  rw [runD1]
  simp only [b__law_is_name, sRet_ap, vAnd_ap, eBin_ap, eC_ap, eCall_ap, eCons_ap, eNil_ap, eVar_z, R.ok_bind, dLen_s (Nat.le_trans hw (by decide)), dLt_i, dLe_i, asB_bl, R.ite_bind]
  rw [comp_in hw rfl rfl (fun c => rfl)]
  simp only [R.ok_bind, dAll_map, nmT, len12, allIn]
  rw [show decide ((w.length : Int) < 13) = decide ((w.length : Int) ≤ 12) from decide_eq_decide.mpr (by omega)]
  generalize decide ((0 : Int) < w.length) = a
  generalize decide ((w.length : Int) ≤ 12) = b
  cases a <;> cases b <;> rfl
theorem ix0 {w : Str} (h : 0 < w.length) (hw : w.length ≤ 1000000) : dIx (.str w) (.int 0) = .ok (.str ⟨#[(tl w).headD 0]⟩) := by
  refine dIx_s (n := 0) (Nat.le_trans hw (by decide)) ?_
  have : 0 < (tl w).length := by rw [← len_tl]; exact h
  cases e : tl w with
  | nil => rw [e] at this; cases this
  | cons a r => show (tl w)[0]? = _; rw [e]; rfl
theorem one_eq (a b : Nat) : ((⟨#[a]⟩ : Str) == ⟨#[b]⟩) = (a == b) := by
  by_cases h : a = b
  · subst h; simp
  · rw [beq_false_of_ne h]
    refine beq_false_of_ne fun e => h ?_
    have := congrArg tl e
    simpa [tl] using this
theorem hd0_eq {w : Str} (h : 0 < w.length) : ((⟨#[(tl w).headD 0]⟩ : Str) == ("0" : Str)) = hd0 w := by
  have e : ("0" : Str) = ⟨#[48]⟩ := by decide
  rw [e, one_eq]
  have : 0 < (tl w).length := by rw [← len_tl]; exact h
  unfold hd0
  cases e : tl w with
  | nil => rw [e] at this; cases this
  | cons a r => simp
theorem any_not (z w : Str) : ((tl w).any fun c => !decide (c ∈ tl z)) = !allIn z w := by
  unfold allIn
  rw [List.not_all_eq_any_not]
theorem is_number {w : Str} (hw : w.length ≤ 1000000) : m__is_number [.str w] = .ok (.bl (numT w)) := by
  unfold m__is_number
  rw [runD1]
  simp only [b__is_number, sSeq_ap, sIf_ap, bOr_ap, bNot_ap, tst_ap, sRet_ap, vOr_ap, eChain_ap, eC_ap, eCall_ap, eCons_ap, eNil_ap, eVar_z, R.ok_bind, dLen_s (Nat.le_trans hw (by decide)), dLt_i, dLe_i, asB_bl, R.ite_bind]
  rw [comp_notin hw rfl rfl (fun c => rfl)]
  simp only [R.ok_bind, dAny_map, any_not, asB_bl, sNext_ap, seqK_nx, seqK_rt, sRet_ap, vOr_ap, eBin_ap, eVar_z, eC_ap, dEq_s, R.ite_bind, outK_rt]
  unfold numT len12
  by_cases h1 : (0 : Int) < w.length
  · rw [ix0 (by omega) hw, decide_eq_true h1]
    simp only [R.ok_bind, dNe_s, hd0_eq (w := w) (by omega), outK_rt]
    generalize decide ((w.length : Int) ≤ 12) = b
    generalize allIn FIG w = c
    generalize hd0 w = d
    generalize (w == "0") = e
    cases b <;> cases c <;> cases d <;> cases e <;> rfl
  · rw [decide_eq_false h1]
    rfl
theorem fig_iff (c : Nat) : c ∈ tl FIG ↔ 48 ≤ c ∧ c ≤ 57 := by
  have e : tl FIG = [48, 49, 50, 51, 52, 53, 54, 55, 56, 57] := by decide
  rw [e]
  simp only [List.mem_cons, List.not_mem_nil, or_false]
  omega
theorem let_iff (c : Nat) : c ∈ tl LET ↔ 97 ≤ c ∧ c ≤ 122 := by
  have e : tl LET = [97, 98, 99, 100, 101, 102, 103, 104, 105, 106, 107, 108, 109, 110, 111, 112, 113, 114, 115, 116, 117, 118, 119, 120, 121, 122] := by decide
  rw [e]
  simp only [List.mem_cons, List.not_mem_nil, or_false]
  omega
theorem all_fig {w : Str} (h : allIn FIG w = true) : NumText.AllDigits (tl w) := fun c hc => by
  have := List.all_eq_true.mp h c hc
  exact (fig_iff c).mp (of_decide_eq_true this)
theorem len12_iff {w : Str} : len12 w = true ↔ 0 < w.length ∧ w.length ≤ 12 := by
  unfold len12
  rw [Bool.and_eq_true, decide_eq_true_iff, decide_eq_true_iff]
  omega
theorem int_of {w : Str} (h1 : len12 w = true) (h2 : allIn FIG w = true) : dInt [.str w] = .ok (.int (val w)) := by
  obtain ⟨a, b⟩ := len12_iff.mp h1
  refine dInt_s ?_ (by omega)
  exact PySem.intText_digits (all_fig h2) (fun e => by rw [len_tl, show tl w = [] from e] at a; cases a) (by omega)
theorem no_len {w : Str} (h : ¬ (0 < w.length ∧ w.length ≤ 12)) : len12 w = false := by
  cases e : len12 w with
  | false => rfl
  | true => exact absurd (len12_iff.mp e) h
theorem law_number {w : Str} (hw : w.length ≤ 1000000) : m__law_number [.str w] = .ok (.int (if numT w = true then val w else -1)) := by
  unfold m__law_number
  rw [runD1]
  simp only [b__law_number, sSeq_ap, sIf_ap, bOr_ap, bAnd_ap, bNot_ap, tst_ap, sRet_ap, eBin_ap, eC_ap, eCall_ap, eCons_ap, eNil_ap, eVar_z, R.ok_bind, dLen_s (Nat.le_trans hw (by decide)), dLt_i, dGt_i, asB_bl, R.ite_bind]
  rw [comp_in hw rfl rfl (fun c => rfl)]
  simp only [R.ok_bind, dAll_map, asB_bl, sNext_ap, sSeq_ap, sIf_ap, bAnd_ap, tst_ap, dLen_s (Nat.le_trans hw (by decide)), eCall_ap, eCons_ap, eNil_ap, dGt_i, seqK_nx, seqK_rt, sRet_ap, eBin_ap, eVar_z, eC_ap, R.ite_bind, outK_rt, dNeg_i]
  by_cases h1 : (w.length : Int) < 1
  · rw [decide_eq_true h1]
    simp only [numT, no_len (w := w) (by omega), Bool.false_and, Bool.false_eq_true, if_true, if_false]
  · rw [decide_eq_false h1]
    by_cases h2 : (12 : Int) < w.length
    · rw [decide_eq_true h2]
      simp only [numT, no_len (w := w) (by omega), Bool.false_and, Bool.false_eq_true, if_true, if_false]
    · rw [decide_eq_false h2]
      have hl : len12 w = true := len12_iff.mpr (by omega)
      rw [ix0 (by omega) hw]
      change (if false = true then _ else if false = true then _ else if (!allIn FIG w) = true then _ else _) = _
      simp only [R.ok_bind, dEq_s, asB_bl, hd0_eq (w := w) (by omega), outK_rt, numT, hl, Bool.false_eq_true, if_false, Bool.true_and]
      cases h3 : allIn FIG w with
      | false => rfl
      | true =>
        rw [int_of hl h3]
        by_cases h4 : (1 : Int) < w.length
        · have h5 : (w == "0") = false := beq_false_of_ne fun e => by rw [e] at h4; revert h4; decide
          rw [decide_eq_true h4, h5]
          cases h6 : hd0 w with
          | true => rfl
          | false =>
            show (dInt [.str w] >>= fun d => R.ok (Out.rt d)) >>= outK = _
            rw [int_of hl h3]; rfl
        · rw [decide_eq_false h4]
          cases h6 : hd0 w with
          | false => rfl
          | true =>
            have h5 : w = "0" := by
              refine ext_tl ?_
              have hl1 : (tl w).length = 1 := by rw [← len_tl]; omega
              obtain ⟨a, ea⟩ := List.length_eq_one_iff.mp hl1
              rw [ea]
              unfold hd0 at h6
              rw [ea] at h6
              have : a = 48 := by simpa using h6
              rw [this]; decide
            rw [beq_iff_eq.mpr h5]
            rfl
/-- a number's text, back and forth -/
theorem num_of {w : Str} (h : numT w = true) : ∃ n : Nat, val w = n ∧ n < 10 ^ 12 ∧ (toString ((n : Nat) : Int) : Str) = w := by
  unfold numT at h
  rw [Bool.and_eq_true, Bool.and_eq_true] at h
  obtain ⟨⟨h1, h2⟩, h3⟩ := h
  obtain ⟨a, b⟩ := len12_iff.mp h1
  have hd := all_fig h2
  refine ⟨dval (tl w), rfl, ?_, ext_tl ((tl_num _).trans ?_)⟩
  · refine Nat.lt_of_lt_of_le (dval_lt _ _ rfl hd) (Nat.pow_le_pow_right (by decide) ?_)
    rw [← len_tl]; exact b
  · rw [Bool.or_eq_true] at h3
    rcases h3 with h3 | h3
    · refine (canon _ _ rfl (fun e => by rw [len_tl, e] at a; cases a) hd fun e => ?_).1
      unfold hd0 at h3
      rw [e] at h3
      cases h3
    · have e : w = "0" := eq_of_beq h3
      rw [e]; decide
theorem num_mk {n : Nat} (h : n < 10 ^ 12) : numT (toString ((n : Nat) : Int) : Str) = true ∧ val (toString ((n : Nat) : Int) : Str) = n := by
  have e := tl_num n
  have hl := numL_len (k := 12) (by decide) h
  have hne := numL_ne n
  refine ⟨?_, ?_⟩
  · unfold numT
    rw [Bool.and_eq_true, Bool.and_eq_true]
    refine ⟨⟨len12_iff.mpr ?_, ?_⟩, ?_⟩
    · rw [len_tl, e]
      exact ⟨List.length_pos_iff.mpr hne, hl⟩
    · unfold allIn
      rw [e, List.all_eq_true]
      intro c hc
      exact decide_eq_true ((fig_iff c).mpr (numL_digits n c hc))
    · by_cases h0 : n = 0
      · subst h0; decide
      · rw [Bool.or_eq_true]
        left
        unfold hd0
        rw [e]
        have := numL_head n (by omega)
        cases e2 : ((numL n).head? == some 48) with
        | false => rfl
        | true => exact absurd (eq_of_beq e2) this
  · unfold val
    rw [e]
    show ((dval (numL n) : Nat) : Int) = n
    unfold dval
    rw [numL_val]
end K32

namespace K32
open PySem PySem.Spec PyProof.Rows L2 DD TL TX

/-! ### what a line is read as -/
def rdPlain : List Nat → List Str → Option (List D)
  | [], [] => some []
  | f :: fs, w :: ws => if f = 110 then (if numT w = true then (rdPlain fs ws).map (D.int (val w) :: ·) else none) else if nmT w = true then (rdPlain fs ws).map (D.str w :: ·) else none
  | _, _ => none
def fms : List (Str × List Nat) := [("start", [110]), ("take", [110, 119, 110, 110, 119, 110]), ("done", [110, 119, 110, 110, 119]), ("undone", [110, 119])]
def labT (w : Str) : Bool := match Txt.split w "." with
  | [a, b] => nmT a && nmT b
  | _ => false
def labD (w : Str) : D := .tup ((Txt.split w ".").map D.str)
def rdKept : List Str → D
  | w1 :: w2 :: ls => if (numT w1 && (Txt.split w2 ",").all numT && ls.all labT) = true then .tup [.str "kept", .int (val w1), .tup ((Txt.split w2 ",").map fun w => .int (val w)), .tup (ls.map labD)] else .non
  | _ => .non
def rd : List Str → D
  | [] => .non
  | kw :: rest => if kw = "kept" then rdKept rest else match fms.lookup kw with
    | some fs => (match rdPlain fs rest with
      | some ds => .tup (.str kw :: ds)
      | none => .non)
    | none => .non
theorem rdPlain_len : ∀ {fs : List Nat} {ws : List Str} {ds : List D}, rdPlain fs ws = some ds → ws.length = fs.length ∧ ds.length = fs.length
  | [], [], ds, h => by cases h; exact ⟨rfl, rfl⟩
  | f :: fs, w :: ws, ds, h => by
    have key : ∀ d : D, (rdPlain fs ws).map (d :: ·) = some ds → (w :: ws).length = (f :: fs).length ∧ ds.length = (f :: fs).length := fun d e => by
      cases e1 : rdPlain fs ws with
      | none => rw [e1] at e; cases e
      | some es =>
        rw [e1] at e
        cases e
        obtain ⟨i1, i2⟩ := rdPlain_len e1
        exact ⟨congrArg (· + 1) i1, congrArg (· + 1) i2⟩
    unfold rdPlain at h
    split at h
    · split at h
      · exact key _ h
      · cases h
    · split at h
      · exact key _ h
      · cases h
  | [], _ :: _, ds, h => by cases h
  | _ :: _, [], ds, h => by cases h
theorem nn : ((⟨#[110]⟩ : Str) == "n") = true := by decide
theorem wn : ((⟨#[119]⟩ : Str) == "n") = false := by decide
theorem ww : ((⟨#[119]⟩ : Str) == "w") = true := by decide
theorem nw : ((⟨#[110]⟩ : Str) == "w") = false := by decide
abbrev ch (c : Nat) : D := .str ⟨#[c]⟩
def Sm (ws : List Str) : Prop := (ws.map (·.length)).sum + ws.length ≤ 1000000
theorem Sm.mem {ws : List Str} (h : Sm ws) {w : Str} (m : w ∈ ws) : w.length ≤ 1000000 := by
  have := sum_ge m
  unfold Sm at h
  omega
theorem Sm.tl {w : Str} {ws : List Str} (h : Sm (w :: ws)) : Sm ws := by
  unfold Sm at h ⊢
  simp only [List.map_cons, List.sum_cons, List.length_cons] at h
  omega
theorem Sm.len {ws : List Str} (h : Sm ws) : ws.length ≤ 1000000 := by
  unfold Sm at h
  omega
theorem Sm.split {x y : Str} {s : Nat} (h : Sep1 y s) (hx : x.length ≤ 999999) : Sm (Txt.split x y) := by
  have := split_len (x := x) h
  unfold Sm
  omega

theorem plain_n {A B x y : Sl} {acc : List D} {w : Str} (hw : w.length ≤ 1000000) (ha : acc.length < 1000) :
    (tgT 2 (tgsCons (tgN 3) (tgsCons (tgN 4) tgsNil)) (.tup [ch 110, .str w]) [A, B, .ow acc, x, y] >>= b__plain_parts_0) =
      if numT w = true then .ok (.nx [A, B, .ow (acc ++ [.int (val w)]), .fz (ch 110), .fz (.str w)]) else .ok (.rt .non) := by
  simp only [tgT_ap, List.length_cons, List.length_nil, Nat.zero_add, Nat.reduceAdd, beq_self_eq_true, guardR_t, R.ok_bind, tgsCons_ap, tgN_ap, tgsNil_ap, List.set_cons_succ, List.set_cons_zero, b__plain_parts_0, sIf_ap, bAnd_ap, tst_ap, eBin_ap, eVar_s, eVar_z, eC_ap, ch, dEq_s, nn, nw, asB_bl, if_true, eCall_ap, eCons_ap, eNil_ap, is_number hw, truD_bl, sApp_ap, eOwn_s, eOwn_z, sRet_ap, R.ite_bind]
  cases h : numT w with
  | false => rfl
  | true =>
    unfold numT at h
    rw [Bool.and_eq_true, Bool.and_eq_true] at h
    rw [int_of h.1.1 h.1.2]
    simp only [R.ok_bind, if_true]
    rw [decide_eq_true (by omega)]
    rfl
theorem plain_w {A B x y : Sl} {acc : List D} {w : Str} (hw : w.length ≤ 1000000) (ha : acc.length < 1000) :
    (tgT 2 (tgsCons (tgN 3) (tgsCons (tgN 4) tgsNil)) (.tup [ch 119, .str w]) [A, B, .ow acc, x, y] >>= b__plain_parts_0) =
      if nmT w = true then .ok (.nx [A, B, .ow (acc ++ [.str w]), .fz (ch 119), .fz (.str w)]) else .ok (.rt .non) := by
  simp only [tgT_ap, List.length_cons, List.length_nil, Nat.zero_add, Nat.reduceAdd, beq_self_eq_true, guardR_t, R.ok_bind, tgsCons_ap, tgN_ap, tgsNil_ap, List.set_cons_succ, List.set_cons_zero, b__plain_parts_0, sIf_ap, bAnd_ap, tst_ap, eBin_ap, eVar_s, eVar_z, eC_ap, ch, dEq_s, wn, ww, asB_bl, if_true, eCall_ap, eCons_ap, eNil_ap, is_name hw, truD_bl, sApp_ap, eOwn_s, eOwn_z, sRet_ap, R.ite_bind, Bool.false_eq_true, if_false]
  rw [decide_eq_true (by omega)]
  rfl
theorem plain_loop (A B : Sl) : ∀ (fs : List Nat) (ws : List Str) (acc : List D) (x y : Sl), fs.length = ws.length → (∀ f ∈ fs, f = 110 ∨ f = 119) → Sm ws → acc.length + fs.length < 1000 →
    (∃ ds x' y', rdPlain fs ws = some ds ∧ forR (tgT 2 (tgsCons (tgN 3) (tgsCons (tgN 4) tgsNil))) b__plain_parts_0 (zipD (fs.map ch) (ws.map D.str)) [A, B, .ow acc, x, y] = .ok (.nx [A, B, .ow (acc ++ ds), x', y'])) ∨
    (rdPlain fs ws = none ∧ forR (tgT 2 (tgsCons (tgN 3) (tgsCons (tgN 4) tgsNil))) b__plain_parts_0 (zipD (fs.map ch) (ws.map D.str)) [A, B, .ow acc, x, y] = .ok (.rt .non))
  | [], [], acc, x, y, _, _, _, _ => .inl ⟨[], x, y, rfl, by rw [List.append_nil]; rfl⟩
  | [], _ :: _, _, _, _, h, _, _, _ => by cases h
  | _ :: _, [], _, _, _, h, _, _, _ => by cases h
  | f :: fs, w :: ws, acc, x, y, hl, hf, hs, ha => by
    have hw := hs.mem (List.mem_cons_self ..)
    rw [List.length_cons] at ha
    have ih := fun d => plain_loop A B fs ws (acc ++ [d]) (.fz (ch f)) (.fz (.str w)) (by simpa using hl) (fun g hg => hf g (List.mem_cons_of_mem _ hg)) hs.tl (by simp; omega)
    show (∃ ds x' y', _ ∧ forR _ _ (.tup [ch f, .str w] :: zipD (fs.map ch) (ws.map D.str)) _ = _) ∨ (_ ∧ forR _ _ (.tup [ch f, .str w] :: zipD (fs.map ch) (ws.map D.str)) _ = _)
    unfold rdPlain
    rcases hf f (List.mem_cons_self ..) with rfl | rfl
    · have st := plain_n (A := A) (B := B) (x := x) (y := y) hw (by omega : acc.length < 1000)
      rw [if_pos rfl]
      cases h : numT w with
      | false =>
        rw [h] at st
        right
        exact ⟨rfl, forR_rt st⟩
      | true =>
        rw [h] at st
        rw [forR_nx st]
        rcases ih (.int (val w)) with ⟨ds, x', y', e1, e2⟩ | ⟨e1, e2⟩
        · left
          exact ⟨.int (val w) :: ds, x', y', by rw [e1]; rfl, by rw [e2, List.append_assoc]; rfl⟩
        · right
          exact ⟨by rw [e1]; rfl, e2⟩
    · have st := plain_w (A := A) (B := B) (x := x) (y := y) hw (by omega : acc.length < 1000)
      rw [if_neg (by decide)]
      cases h : nmT w with
      | false =>
        rw [h] at st
        right
        exact ⟨rfl, forR_rt st⟩
      | true =>
        rw [h] at st
        rw [forR_nx st]
        rcases ih (.str w) with ⟨ds, x', y', e1, e2⟩ | ⟨e1, e2⟩
        · left
          exact ⟨.str w :: ds, x', y', by rw [e1]; rfl, by rw [e2, List.append_assoc]; rfl⟩
        · right
          exact ⟨by rw [e1]; rfl, e2⟩
theorem fms_ok {kw : Str} {fs : List Nat} (h : fms.lookup kw = some fs) : fs.length < 10 ∧ (∀ f ∈ fs, f = 110 ∨ f = 119) ∧ c_FORMS.lookup kw = some (.str ⟨fs.toArray⟩) ∧ look [.inr "start", .inr "take", .inr "done", .inr "undone"] [.str "n", .str "nwnnwn", .str "nwnnw", .str "nw"] (.inr kw) = some (.str ⟨fs.toArray⟩) ∧ fs ≠ [] := by
  by_cases h1 : kw = "start"
  · subst h1
    have : fs = [110] := by simpa [fms] using h.symm
    subst this
    exact ⟨by decide, by simp, rfl, rfl, by simp⟩
  · by_cases h2 : kw = "take"
    · subst h2
      have : fs = [110, 119, 110, 110, 119, 110] := by
        have e : fms.lookup ("take" : Str) = some [110, 119, 110, 110, 119, 110] := rfl
        rw [e] at h; exact (Option.some.inj h).symm
      subst this
      exact ⟨by decide, by simp, rfl, rfl, by simp⟩
    · by_cases h3 : kw = "done"
      · subst h3
        have : fs = [110, 119, 110, 110, 119] := by
          have e : fms.lookup ("done" : Str) = some [110, 119, 110, 110, 119] := rfl
          rw [e] at h; exact (Option.some.inj h).symm
        subst this
        exact ⟨by decide, by simp, rfl, rfl, by simp⟩
      · by_cases h4 : kw = "undone"
        · subst h4
          have : fs = [110, 119] := by
            have e : fms.lookup ("undone" : Str) = some [110, 119] := rfl
            rw [e] at h; exact (Option.some.inj h).symm
          subst this
          exact ⟨by decide, by simp, rfl, rfl, by simp⟩
        · exfalso
          unfold fms at h
          simp only [List.lookup_cons, beq_false_of_ne h1, beq_false_of_ne h2, beq_false_of_ne h3, beq_false_of_ne h4, List.lookup_nil] at h
          cases h
theorem fms_no {kw : Str} (h : fms.lookup kw = none) : c_FORMS.lookup kw = none ∧ look [.inr "start", .inr "take", .inr "done", .inr "undone"] [.str "n", .str "nwnnwn", .str "nwnnw", .str "nw"] (.inr kw) = none := by
  have g : ∀ z fs, (z, fs) ∈ fms → kw ≠ z := by
    intro z fs hm e
    subst e
    have : ∀ (l : List (Str × List Nat)), (kw, fs) ∈ l → l.lookup kw ≠ none := by
      intro l
      induction l with
      | nil => intro h; cases h
      | cons a l ih =>
        obtain ⟨a1, a2⟩ := a
        intro h
        rw [List.lookup_cons]
        by_cases e : kw = a1
        · subst e; simp
        · rw [beq_false_of_ne e]
          rcases List.mem_cons.mp h with h | h
          · exact absurd (congrArg Prod.fst h) e
          · exact ih h
    exact this _ hm h
  have h1 : kw ≠ "start" := g _ [110] (by simp [fms])
  have h2 : kw ≠ "take" := g _ [110, 119, 110, 110, 119, 110] (by simp [fms])
  have h3 : kw ≠ "done" := g _ [110, 119, 110, 110, 119] (by simp [fms])
  have h4 : kw ≠ "undone" := g _ [110, 119] (by simp [fms])
  refine ⟨?_, ?_⟩
  · unfold c_FORMS
    simp only [List.lookup_cons, beq_false_of_ne h1, beq_false_of_ne h2, beq_false_of_ne h3, beq_false_of_ne h4, List.lookup_nil]
  · unfold look
    have n1 : ∀ z : Str, kw ≠ z → decide ((Sum.inr z : Key) = Sum.inr kw) = false := fun z hz => decide_eq_false fun e => hz (Sum.inr.inj e).symm
    simp [List.zip, List.find?, n1 _ h1, n1 _ h2, n1 _ h3, n1 _ h4, Ne.symm h1, Ne.symm h2, Ne.symm h3, Ne.symm h4]

def rdP (kw : Str) (fs : List Nat) (rest : List Str) : D := match rdPlain fs rest with
  | some ds => .tup (.str kw :: ds)
  | none => .non
theorem rdP_no {kw : Str} {fs : List Nat} {rest : List Str} (h : rest.length ≠ fs.length) : rdP kw fs rest = .non := by
  unfold rdP
  cases e : rdPlain fs rest with
  | none => rfl
  | some ds => exact absurd (rdPlain_len e).1 h
theorem tl_arr (l : List Nat) : (⟨l.toArray⟩ : Str).cps.toList = l := rfl
theorem plain_parts {kw : Str} {fs : List Nat} {rest : List Str} (hf : fms.lookup kw = some fs) (hs : Sm (kw :: rest)) : m__plain_parts [.lst ((kw :: rest).map D.str)] = .ok (rdP kw fs rest) := by
  obtain ⟨f1, f2, f3, f4, f5⟩ := fms_ok hf
  have hl := hs.tl.len
  unfold m__plain_parts
  rw [runD1]
  have ix : dIx (.lst ((kw :: rest).map D.str)) (.int 0) = .ok (.str kw) := dIx_l (n := 0) rfl
  simp only [b__plain_parts, sSeq_ap, sSet_ap, eBin_ap, eVar_z, eC_ap, R.ok_bind, ix, cAt, f3, seqK_nx, List.replicate, List.set_cons_succ, List.set_cons_zero, sIf_ap, tst_ap, eCall_ap, eCons_ap, eNil_ap, eVar_s, dLen_l]
  rw [dLen_s (show (⟨fs.toArray⟩ : Str).length ≤ _ by show fs.toArray.size ≤ _; simp; omega)]
  simp only [R.ok_bind, dAdd_i, dNe_i, asB_bl, List.map_cons, List.length_cons, List.length_map]
  by_cases h : rest.length = fs.length
  · have e : (((rest.length + 1 : Nat) : Int) == ((⟨fs.toArray⟩ : Str).length : Int) + 1) = true := by
      show (((rest.length + 1 : Nat) : Int) == ((fs.toArray.size : Nat) : Int) + 1) = true
      simp [h]
    rw [e]
    simp only [Bool.not_true, Bool.false_eq_true, if_false, sNext_ap, R.ok_bind, seqK_nx, sSeq_ap, sSetO_ap, eLst_ap, eCons_ap, eBin_ap, eVar_z, eC_ap, eNil_ap, sFor_ap, eVar_s, eSl_ap, oSome_ap, oNone_ap, asI_i, dSl_l]
    have ix' : dIx (.lst (.str kw :: rest.map D.str)) (.int 0) = .ok (.str kw) := ix
    rw [ix']
    simp only [R.ok_bind, List.length_cons, List.length_nil, small_of (show 0 + 1 ≤ 16777216 by decide), guardR_t, seqK_nx, List.set_cons_succ, List.set_cons_zero, sSeq_ap, sFor_ap, eCons_ap, eVar_s, eVar_z, eSl_ap, oSome_ap, oNone_ap, eC_ap, asI_i, dSl_l, eNil_ap]
    have hc : DD.cutD (.str kw :: rest.map D.str) (some 1) none = rest.map D.str := cutD_from _ 1
    rw [hc]
    simp only [dZip, items_s, items_l, R.ok_bind, tl_arr]
    rcases plain_loop (.fz (.lst (.str kw :: rest.map D.str))) (.fz (.str ⟨fs.toArray⟩)) fs rest [.str kw] .un .un h.symm f2 hs.tl (by simp; omega) with ⟨ds, x', y', e1, e2⟩ | ⟨e1, e2⟩
    · rw [e2]
      unfold rdP
      rw [e1]
      rfl
    · rw [e2]
      unfold rdP
      rw [e1]
      rfl
  · have e : (((rest.length + 1 : Nat) : Int) == ((⟨fs.toArray⟩ : Str).length : Int) + 1) = false := by
      show (((rest.length + 1 : Nat) : Int) == ((fs.toArray.size : Nat) : Int) + 1) = false
      simp
      omega
    rw [e, rdP_no h]
    rfl
end K32

namespace K32
open PySem PySem.Spec PyProof.Rows L2 DD TL TX

theorem val_nn (w : Str) : 0 ≤ val w := Int.natCast_nonneg _
theorem num_lt (w : Str) : decide ((if numT w = true then val w else (-1 : Int)) < 0) = !numT w := by
  have := val_nn w
  cases numT w with
  | true => exact decide_eq_false (by simp; exact this)
  | false => rfl
theorem read_n {L Kd x y : Sl} {W : List D} {z w : Str} {k : Nat} {acc : List D} (hz : z.length ≤ 1000) (hw : w.length ≤ 1000000) (h1 : (tl z)[k]? = some 110) (h2 : W[k + 1]? = some (.str w)) (ha : acc.length < 1000) :
    (tgN 5 (.int (0 + (k : Int))) [L, .fz (.lst W), Kd, .fz (.str z), .ow acc, x, y] >>= b__law_read_0) =
      if numT w = true then .ok (.nx [L, .fz (.lst W), Kd, .fz (.str z), .ow (acc ++ [.int (val w)]), .fz (.int (0 + (k : Int))), .fz (.int (val w))]) else .ok (.rt .non) := by
  have i1 : dIx (.lst W) (.int (0 + (k : Int) + 1)) = .ok (.str w) := by
    rw [show (0 + (k : Int) + 1) = ((k + 1 : Nat) : Int) by omega]
    exact dIx_l h2
  have i2 : dIx (.str z) (.int (0 + (k : Int))) = .ok (.str ⟨#[110]⟩) := by
    rw [Int.zero_add]
    exact dIx_s (Nat.le_trans hz (by decide)) h1
  simp only [tgN_ap, R.ok_bind, List.set_cons_succ, List.set_cons_zero, b__law_read_0, sSeq_ap, sSet_ap, eBin_ap, eVar_s, eVar_z, eC_ap, dAdd_i, i1, i2, seqK_nx, sIf_ap, tst_ap, dEq_s, nn, asB_bl, if_true, eCall_ap, eCons_ap, eNil_ap, law_number hw, dLt_i, num_lt]
  cases h : numT w with
  | false => rfl
  | true =>
    simp only [Bool.not_true, Bool.false_eq_true, if_false, if_true, sNext_ap, R.ok_bind, seqK_nx, sApp_ap, eOwn_s, eOwn_z, eVar_s, eVar_z]
    rw [decide_eq_true (by omega)]
    rfl
theorem read_w {L Kd x y : Sl} {W : List D} {z w : Str} {k : Nat} {acc : List D} (hz : z.length ≤ 1000) (hw : w.length ≤ 1000000) (h1 : (tl z)[k]? = some 119) (h2 : W[k + 1]? = some (.str w)) (ha : acc.length < 1000) :
    (tgN 5 (.int (0 + (k : Int))) [L, .fz (.lst W), Kd, .fz (.str z), .ow acc, x, y] >>= b__law_read_0) =
      if nmT w = true then .ok (.nx [L, .fz (.lst W), Kd, .fz (.str z), .ow (acc ++ [.str w]), .fz (.int (0 + (k : Int))), .fz (.str w)]) else .ok (.rt .non) := by
  have i1 : dIx (.lst W) (.int (0 + (k : Int) + 1)) = .ok (.str w) := by
    rw [show (0 + (k : Int) + 1) = ((k + 1 : Nat) : Int) by omega]
    exact dIx_l h2
  have i2 : dIx (.str z) (.int (0 + (k : Int))) = .ok (.str ⟨#[119]⟩) := by
    rw [Int.zero_add]
    exact dIx_s (Nat.le_trans hz (by decide)) h1
  simp only [tgN_ap, R.ok_bind, List.set_cons_succ, List.set_cons_zero, b__law_read_0, sSeq_ap, sSet_ap, eBin_ap, eVar_s, eVar_z, eC_ap, dAdd_i, i1, i2, seqK_nx, sIf_ap, bNot_ap, tst_ap, dEq_s, wn, asB_bl, if_true, eCall_ap, eCons_ap, eNil_ap, law_is_name hw, truD_bl, Bool.false_eq_true, if_false]
  cases h : nmT w with
  | false => rfl
  | true =>
    simp only [Bool.not_true, Bool.false_eq_true, if_false, if_true, sNext_ap, R.ok_bind, seqK_nx, sApp_ap, eOwn_s, eOwn_z, eVar_s, eVar_z]
    rw [decide_eq_true (by omega)]
    rfl
theorem read_loop (L Kd : Sl) (z : Str) (kw : D) (hz : z.length ≤ 1000) : ∀ (fs : List Nat) (ws : List Str) (pf : List Nat) (pw : List D) (acc : List D) (x y : Sl), tl z = pf ++ fs → pw.length = pf.length → fs.length = ws.length → (∀ f ∈ fs, f = 110 ∨ f = 119) → Sm ws → acc.length + fs.length < 1000 →
    (∃ ds x' y', rdPlain fs ws = some ds ∧ forR (tgN 5) b__law_read_0 ((List.range' pf.length fs.length).map fun (k : Nat) => D.int (0 + (k : Int))) [L, .fz (.lst (kw :: (pw ++ ws.map D.str))), Kd, .fz (.str z), .ow acc, x, y] = .ok (.nx [L, .fz (.lst (kw :: (pw ++ ws.map D.str))), Kd, .fz (.str z), .ow (acc ++ ds), x', y'])) ∨
    (rdPlain fs ws = none ∧ forR (tgN 5) b__law_read_0 ((List.range' pf.length fs.length).map fun (k : Nat) => D.int (0 + (k : Int))) [L, .fz (.lst (kw :: (pw ++ ws.map D.str))), Kd, .fz (.str z), .ow acc, x, y] = .ok (.rt .non))
  | [], [], pf, pw, acc, x, y, _, _, _, _, _, _ => .inl ⟨[], x, y, rfl, by rw [List.append_nil]; rfl⟩
  | [], _ :: _, _, _, _, _, _, _, _, h, _, _, _ => by cases h
  | _ :: _, [], _, _, _, _, _, _, _, h, _, _, _ => by cases h
  | f :: fs, w :: ws, pf, pw, acc, x, y, hzz, hp, hl, hf, hs, ha => by
    have hw := hs.mem (List.mem_cons_self ..)
    rw [List.length_cons] at ha
    have h1 : (tl z)[pf.length]? = some f := by rw [hzz]; simp
    have h2 : (kw :: (pw ++ (w :: ws).map D.str))[pf.length + 1]? = some (.str w) := by
      rw [List.getElem?_cons_succ, ← hp]; simp
    have ih := fun d s => read_loop L Kd z kw hz fs ws (pf ++ [f]) (pw ++ [.str w]) (acc ++ [d]) (.fz (.int (0 + (pf.length : Int)))) s (by rw [hzz, List.append_assoc]; rfl) (by simp [hp]) (by simpa using hl) (fun g hg => hf g (List.mem_cons_of_mem _ hg)) hs.tl (by simp; omega)
    have eW : kw :: (pw ++ [D.str w] ++ ws.map D.str) = kw :: (pw ++ (w :: ws).map D.str) := by rw [List.append_assoc]; rfl
    rw [eW, show (pf ++ [f]).length = pf.length + 1 by simp] at ih
    rw [List.length_cons, show List.range' pf.length (fs.length + 1) = pf.length :: List.range' (pf.length + 1) fs.length from List.range'_succ .., List.map_cons]
    unfold rdPlain
    rcases hf f (List.mem_cons_self ..) with rfl | rfl
    · have st := read_n (L := L) (Kd := Kd) (x := x) (y := y) hz hw h1 h2 (by omega : acc.length < 1000)
      rw [if_pos rfl]
      cases h : numT w with
      | false =>
        rw [h] at st
        right
        exact ⟨rfl, forR_rt st⟩
      | true =>
        rw [h] at st
        rw [forR_nx st]
        rcases ih (.int (val w)) (.fz (.int (val w))) with ⟨ds, x', y', e1, e2⟩ | ⟨e1, e2⟩
        · left
          exact ⟨.int (val w) :: ds, x', y', by rw [e1]; rfl, by rw [e2, List.append_assoc]; rfl⟩
        · right
          exact ⟨by rw [e1]; rfl, e2⟩
    · have st := read_w (L := L) (Kd := Kd) (x := x) (y := y) hz hw h1 h2 (by omega : acc.length < 1000)
      rw [if_neg (by decide)]
      cases h : nmT w with
      | false =>
        rw [h] at st
        right
        exact ⟨rfl, forR_rt st⟩
      | true =>
        rw [h] at st
        rw [forR_nx st]
        rcases ih (.str w) (.fz (.str w)) with ⟨ds, x', y', e1, e2⟩ | ⟨e1, e2⟩
        · left
          exact ⟨.str w :: ds, x', y', by rw [e1]; rfl, by rw [e2, List.append_assoc]; rfl⟩
        · right
          exact ⟨by rw [e1]; rfl, e2⟩
/-! ### kept -/
theorem split_ok {x y : Str} (hy : y.length ≠ 0) (hx : x.length ≤ 1000000) : dSplit (.str x) (.str y) = .ok ((Txt.split x y).map D.str) := dSplit_s hy (Nat.le_trans hx (by decide))
theorem min_neg : ∀ (l : List Int), l ≠ [] → decide (lmin l < 0) = l.any fun i => decide (i < 0)
  | [], h => absurd rfl h
  | [a], _ => by
    show decide (a < 0) = (decide (a < 0) || false)
    rw [Bool.or_false]
  | a :: b :: r, _ => by
    have ih := min_neg (b :: r) (by simp)
    rw [List.any_cons, ← ih]
    show decide (min a (lmin (b :: r)) < 0) = _
    generalize lmin (b :: r) = m
    by_cases h1 : a < 0 <;> by_cases h2 : m < 0 <;> simp [h1, h2] <;> omega
theorem lab_step {A B x y : Sl} {acc : List D} {w : Str} (hw : w.length ≤ 1000000) (ha : acc.length < 2000000) :
    ∃ s, (tgN 3 (.str w) [A, B, .ow acc, x, y] >>= b__law_read_kept_0) = if labT w = true then .ok (.nx [A, B, .ow (acc ++ [labD w]), .fz (.str w), s]) else .ok (.rt .non) := by
  have hl : ("." : Str).length ≠ 0 := by decide
  have hm := fun p h => Nat.le_trans (split_le (x := w) sep_do (p := p) h) hw
  have hcnt := split_cnt (x := w) sep_do
  refine ⟨.fz (.lst ((Txt.split w ".").map D.str)), ?_⟩
  simp only [tgN_ap, R.ok_bind, List.set_cons_succ, List.set_cons_zero, b__law_read_kept_0, sSeq_ap, sSet_ap, toLst_ap, eVar_s, eVar_z, eC_ap, split_ok hl hw, seqK_nx, sIf_ap, bOr_ap, tst_ap, eBin_ap, eCall_ap, eCons_ap, eNil_ap, dLen_l, dNe_i, asB_bl, List.length_map]
  unfold labT labD
  cases e : Txt.split w "." with
  | nil => exact absurd e (split_ne sep_do)
  | cons a r =>
    cases r with
    | nil => rfl
    | cons b r =>
      cases r with
      | nil =>
        have ha1 := hm a (by rw [e]; simp)
        have hb1 := hm b (by rw [e]; simp)
        have i0 : dIx (.lst [.str a, .str b]) (.int 0) = .ok (.str a) := rfl
        have i1 : dIx (.lst [.str a, .str b]) (.int 1) = .ok (.str b) := rfl
        simp only [List.map_cons, List.map_nil, List.length_cons, List.length_nil]
        rw [show (!(((0 + 1 + 1 : Nat) : Int) == 2)) = false from rfl]
        simp only [Bool.false_eq_true, if_false, bOr_ap, bNot_ap, eCall_ap, eCons_ap, eBin_ap, eVar_s, eVar_z, eC_ap, eNil_ap, R.ok_bind, i0, i1, law_is_name ha1, law_is_name hb1, truD_bl]
        cases nmT a with
        | false => rfl
        | true =>
          cases nmT b with
          | false => rfl
          | true =>
            simp only [Bool.not_true, Bool.false_eq_true, if_false, sNext_ap, R.ok_bind, seqK_nx, sApp_ap, eOwn_s, eOwn_z, eTup_ap, eCons_ap, eBin_ap, eVar_s, eVar_z, eC_ap, eNil_ap, i0, i1]
            rw [decide_eq_true (by omega)]
            rfl
      | cons c r =>
        simp only [List.map_cons, List.length_cons]
        rw [show (!(((r.length + 1 + 1 + 1 : Nat) : Int) == 2)) = true by simp; omega]
        rfl
theorem lab_loop (A B : Sl) : ∀ (ls : List Str) (acc : List D) (x y : Sl), Sm ls → acc.length + ls.length < 2000000 →
    (∃ x' y', ls.all labT = true ∧ forR (tgN 3) b__law_read_kept_0 (ls.map D.str) [A, B, .ow acc, x, y] = .ok (.nx [A, B, .ow (acc ++ ls.map labD), x', y'])) ∨
    (ls.all labT = false ∧ forR (tgN 3) b__law_read_kept_0 (ls.map D.str) [A, B, .ow acc, x, y] = .ok (.rt .non))
  | [], acc, x, y, _, _ => .inl ⟨x, y, rfl, by rw [List.map_nil, List.map_nil, List.append_nil]; rfl⟩
  | w :: ls, acc, x, y, hs, ha => by
    rw [List.length_cons] at ha
    obtain ⟨s, st⟩ := lab_step (A := A) (B := B) (x := x) (y := y) (acc := acc) (hs.mem (List.mem_cons_self ..)) (by omega)
    rw [List.map_cons, List.all_cons]
    cases h : labT w with
    | false =>
      rw [h] at st
      right
      exact ⟨rfl, forR_rt st⟩
    | true =>
      rw [h] at st
      rw [forR_nx st]
      rcases lab_loop A B ls (acc ++ [labD w]) (.fz (.str w)) s hs.tl (by simp; omega) with ⟨x', y', e1, e2⟩ | ⟨e1, e2⟩
      · left
        exact ⟨x', y', by rw [e1]; rfl, by rw [e2, List.append_assoc]; rfl⟩
      · right
        exact ⟨by rw [e1]; rfl, e2⟩
end K32

namespace K32
open PySem PySem.Spec PyProof.Rows L2 DD TL TX

theorem numT_num {w : Str} (h : numT w = true) : dInt [.str w] = .ok (.int (val w)) := by
  unfold numT at h
  rw [Bool.and_eq_true, Bool.and_eq_true] at h
  exact int_of h.1.1 h.1.2
theorem all_map_num (l : List Str) : ((l.map fun w => if numT w = true then val w else (-1 : Int)).any fun i => decide (i < 0)) = !l.all numT := by
  induction l with
  | nil => rfl
  | cons w l ih =>
    rw [List.map_cons, List.any_cons, List.all_cons, ih, num_lt, Bool.not_and]
theorem lab_one {ρ : En} {p : Str} (h : p.length ≤ 1000000) (he : eVar 5 ρ = .ok (labD p)) :
    vAnd (eBin dEq (eCall dLen (eCons (eVar 5) eNil)) (eC (.int 2))) (vAnd (eCall m_is_name (eCons (eBin dIx (eVar 5) (eC (.int 0))) eNil)) (eCall m_is_name (eCons (eBin dIx (eVar 5) (eC (.int 1))) eNil))) ρ = .ok (.bl (labT p)) := by
  have hm := fun q h' => Nat.le_trans (split_le (x := p) sep_do (p := q) h') h
  simp only [vAnd_ap, eBin_ap, eCall_ap, eCons_ap, eNil_ap, eC_ap, he, R.ok_bind, labD, dLen_t, dEq_i, asB_bl, List.length_map]
  unfold labT
  cases e : Txt.split p "." with
  | nil => exact absurd e (split_ne sep_do)
  | cons a r =>
    cases r with
    | nil => rfl
    | cons b r =>
      cases r with
      | nil =>
        have ha1 := hm a (by rw [e]; simp)
        have hb1 := hm b (by rw [e]; simp)
        have i0 : dIx (.tup [.str a, .str b]) (.int 0) = .ok (.str a) := rfl
        have i1 : dIx (.tup [.str a, .str b]) (.int 1) = .ok (.str b) := rfl
        simp only [List.map_cons, List.map_nil, List.length_cons, List.length_nil]
        rw [show (((0 + 1 + 1 : Nat) : Int) == 2) = true from rfl]
        simp only [if_true, R.ok_bind, i0, i1, is_name ha1, is_name hb1, asB_bl]
        cases nmT a <;> cases nmT b <;> rfl
      | cons c r =>
        rw [if_neg (show ¬ ((((a :: b :: c :: r).length : Nat) : Int) == 2) = true by simp; omega)]

theorem rdKept_cons (w1 w2 : Str) (ls : List Str) : rdKept (w1 :: w2 :: ls) = if (numT w1 && (Txt.split w2 ",").all numT && ls.all labT) = true then .tup [.str "kept", .int (val w1), .tup ((Txt.split w2 ",").map fun w => .int (val w)), .tup (ls.map labD)] else .non := rfl
theorem read_kept {kw : Str} {rest : List Str} (hs : Sm (kw :: rest)) : m__law_read_kept [.lst ((kw :: rest).map D.str)] = .ok (rdKept rest) := by
  unfold m__law_read_kept
  rw [runD1]
  cases rest with
  | nil => rfl
  | cons w1 rest =>
    cases rest with
    | nil => rfl
    | cons w2 ls =>
      have hw1 := hs.mem (w := w1) (by simp)
      have hw2 := hs.mem (w := w2) (by simp)
      have hls := hs.tl.tl.tl
      have hl := hls.len
      have i1 : dIx (.lst ((kw :: w1 :: w2 :: ls).map D.str)) (.int 1) = .ok (.str w1) := dIx_l (n := 1) rfl
      have i2 : dIx (.lst ((kw :: w1 :: w2 :: ls).map D.str)) (.int 2) = .ok (.str w2) := dIx_l (n := 2) rfl
      have hc : DD.cutD ((kw :: w1 :: w2 :: ls).map D.str) (some 3) none = ls.map D.str := cutD_from _ 3
      have e3 : decide ((((kw :: w1 :: w2 :: ls).map D.str).length : Int) < 3) = false := decide_eq_false (by simp; omega)
      have hco : ("," : Str).length ≠ 0 := by decide
      simp only [b__law_read_kept, sSeq_ap, sIf_ap, bOr_ap, tst_ap, eBin_ap, eCall_ap, eCons_ap, eNil_ap, eVar_z, eC_ap, R.ok_bind, dLen_l, dLt_i, e3, asB_bl, Bool.false_eq_true, if_false, i1, law_number hw1, num_lt, sRet_ap, sNext_ap]
      rw [rdKept_cons]
      cases h1 : numT w1 with
      | false => simp only [Bool.not_false, Bool.false_and, Bool.false_eq_true, if_true, if_false, R.ok_bind, sRet_ap, eC_ap, seqK_rt, outK_rt]
      | true =>
        simp only [Bool.not_true, Bool.false_eq_true, if_false, if_true, R.ok_bind, seqK_nx, sSeq_ap, sSet_ap, toLst_ap, List.replicate]
        rw [eComp_map (l := Txt.split w2 ",") (g := D.str) (f := fun w => D.int (if numT w = true then val w else -1)) (by
              simp only [toLst_ap, eBin_ap, eVar_z, eC_ap, R.ok_bind, i2, split_ok hco hw2, items_l]) rfl (Nat.lt_of_le_of_lt (split_cnt sep_co) (by omega)) (fun w hw => by
              have hww : w.length ≤ 1000000 := Nat.le_trans (split_le sep_co hw) hw2
              simp only [tgN_ap, R.ok_bind, wipeE, List.set_cons_succ, List.set_cons_zero, eCall_ap, eCons_ap, eNil_ap, eVar_s, eVar_z, law_number hww])]
        simp only [R.ok_bind, seqK_nx, List.set_cons_succ, List.set_cons_zero, sSeq_ap, sIf_ap, tst_ap, eBin_ap, eCall_ap, eVar_s, eVar_z, ofLst_lst, dMinL, asInts_map, eC_ap]
        have hne : Txt.split w2 "," ≠ [] := split_ne sep_co
        have em := min_neg ((Txt.split w2 ",").map fun w => if numT w = true then val w else (-1 : Int)) (by simpa using hne)
        rw [all_map_num] at em
        cases ec : (Txt.split w2 ",").map (fun w => if numT w = true then val w else (-1 : Int)) with
        | nil => exact absurd (List.map_eq_nil_iff.mp ec) hne
        | cons a r =>
          rw [ec] at em
          simp only [R.ok_bind, dLt_i, em, asB_bl]
          cases h2 : (Txt.split w2 ",").all numT with
          | false => simp only [Bool.not_false, Bool.false_and, Bool.and_false, Bool.false_eq_true, if_true, if_false, R.ok_bind, sRet_ap, eC_ap, seqK_rt, outK_rt]
          | true =>
            simp only [Bool.not_true, Bool.false_eq_true, if_false, sNext_ap, R.ok_bind, seqK_nx, sSeq_ap, sSetO_ap, eLst_ap, eNil_ap, List.length_nil, small_of (Nat.zero_le _), guardR_t, List.set_cons_succ, List.set_cons_zero, sFor_ap, eSl_ap, eVar_z, oSome_ap, oNone_ap, eC_ap, asI_i, dSl_l, hc, items_l]
            rcases lab_loop (.fz (.lst ((kw :: w1 :: w2 :: ls).map D.str))) (.fz (.lst ((Txt.split w2 ",").map fun w => D.int (if numT w = true then val w else -1)))) ls [] .un .un hls (by simp; omega) with ⟨x', y', e1, e2⟩ | ⟨e1, e2⟩
            · rw [e2]
              simp only [R.ok_bind, seqK_nx, sRet_ap, eTup_ap, eCons_ap, eC_ap, eCall_ap, eBin_ap, eVar_s, eVar_z, i1, eNil_ap, law_number hw1, h1, if_true, ofLst_lst, dTupL_ap, eOwn_s, eOwn_z, e1, List.nil_append, Bool.and_true, List.length_cons, List.length_nil]
              rw [small_of (by decide)]
              simp only [guardR_t, R.ok_bind, outK_rt]
              congr 6
              refine List.map_congr_left fun w hw => ?_
              rw [List.all_eq_true.mp h2 w hw, if_pos rfl]
            · rw [e2, e1]
              simp only [Bool.and_false, Bool.false_eq_true, if_false, R.ok_bind, seqK_rt, outK_rt]
theorem kept_parts {kw : Str} {rest : List Str} (hs : Sm (kw :: rest)) : m__kept_parts [.lst ((kw :: rest).map D.str)] = .ok (rdKept rest) := by
  unfold m__kept_parts
  rw [runD1]
  cases rest with
  | nil => rfl
  | cons w1 rest =>
    cases rest with
    | nil => rfl
    | cons w2 ls =>
      have hw1 := hs.mem (w := w1) (by simp)
      have hw2 := hs.mem (w := w2) (by simp)
      have hls := hs.tl.tl.tl
      have hl := hls.len
      have i1 : dIx (.lst ((kw :: w1 :: w2 :: ls).map D.str)) (.int 1) = .ok (.str w1) := dIx_l (n := 1) rfl
      have i2 : dIx (.lst ((kw :: w1 :: w2 :: ls).map D.str)) (.int 2) = .ok (.str w2) := dIx_l (n := 2) rfl
      have hc : DD.cutD ((kw :: w1 :: w2 :: ls).map D.str) (some 3) none = ls.map D.str := cutD_from _ 3
      have e3 : decide ((((kw :: w1 :: w2 :: ls).map D.str).length : Int) < 3) = false := decide_eq_false (by simp; omega)
      have hco : ("," : Str).length ≠ 0 := by decide
      have hdo : ("." : Str).length ≠ 0 := by decide
      simp only [b__kept_parts, sSeq_ap, sIf_ap, bOr_ap, bNot_ap, tst_ap, eBin_ap, eCall_ap, eCons_ap, eNil_ap, eVar_z, eC_ap, R.ok_bind, dLen_l, dLt_i, e3, asB_bl, Bool.false_eq_true, if_false, i1, is_number hw1, truD_bl, sRet_ap, sNext_ap]
      rw [rdKept_cons]
      cases h1 : numT w1 with
      | false => simp only [Bool.not_false, Bool.false_and, Bool.false_eq_true, if_true, if_false, R.ok_bind, sRet_ap, eC_ap, seqK_rt, outK_rt]
      | true =>
        simp only [Bool.not_true, Bool.false_eq_true, if_false, if_true, R.ok_bind, seqK_nx, sSeq_ap, sSet_ap, toLst_ap, List.replicate, eBin_ap, eVar_z, eC_ap, i2, split_ok hco hw2, List.set_cons_succ, List.set_cons_zero]
        rw [eComp_map (l := ls) (g := D.str) (f := labD) (by
              simp only [eSl_ap, eVar_z, oSome_ap, oNone_ap, eC_ap, R.ok_bind, asI_i, dSl_l, hc, items_l]) rfl (by omega) (fun w hw => by
              simp only [tgN_ap, R.ok_bind, wipeE, List.set_cons_succ, List.set_cons_zero, eCall_ap, eVar_s, eVar_z, eC_ap, split_ok hdo (hls.mem hw), dTupL_ap]; rfl)]
        simp only [R.ok_bind, seqK_nx, List.set_cons_succ, List.set_cons_zero, sSeq_ap, sIf_ap, bNot_ap, tst_ap, eCall_ap]
        rw [eComp_map (l := Txt.split w2 ",") (g := D.str) (f := fun w => D.bl (numT w)) (by
              simp only [eVar_s, eVar_z, R.ok_bind, items_l]) rfl (Nat.lt_of_le_of_lt (split_cnt sep_co) (by omega)) (fun w hw => by
              have hww : w.length ≤ 1000000 := Nat.le_trans (split_le sep_co hw) hw2
              simp only [tgN_ap, R.ok_bind, wipeE, List.set_cons_succ, List.set_cons_zero, eCall_ap, eCons_ap, eNil_ap, eVar_s, eVar_z, is_number hww])]
        simp only [R.ok_bind, dAll_map, asB_bl]
        cases h2 : (Txt.split w2 ",").all numT with
        | false => simp only [Bool.not_false, Bool.false_and, Bool.and_false, Bool.false_eq_true, if_true, if_false, R.ok_bind, sRet_ap, eC_ap, seqK_rt, outK_rt]
        | true =>
          simp only [Bool.not_true, Bool.false_eq_true, if_false, sNext_ap, R.ok_bind, seqK_nx, sSeq_ap, sIf_ap, bNot_ap, tst_ap, eCall_ap]
          rw [eComp_map (l := ls) (g := labD) (f := fun w => D.bl (labT w)) (by
              simp only [eVar_s, eVar_z, R.ok_bind, items_l]) rfl (by omega) (fun w hw => by
              simp only [tgN_ap, R.ok_bind, wipeE, List.set_cons_succ, List.set_cons_zero]
              exact lab_one (hls.mem hw) rfl)]
          simp only [R.ok_bind, dAll_map, asB_bl]
          cases h3 : ls.all labT with
          | false => simp only [Bool.not_false, Bool.false_and, Bool.and_false, Bool.false_eq_true, if_true, if_false, R.ok_bind, sRet_ap, eC_ap, seqK_rt, outK_rt]
          | true =>
            simp only [Bool.not_true, Bool.false_eq_true, if_false, sNext_ap, R.ok_bind, seqK_nx, sSeq_ap, sRet_ap, eTup_ap, eCons_ap, eC_ap, eCall_ap, eBin_ap, eVar_z, i1, eNil_ap, numT_num h1]
            rw [eComp_map (l := Txt.split w2 ",") (g := D.str) (f := fun w => D.int (val w)) (by
                simp only [eVar_s, eVar_z, R.ok_bind, items_l]) rfl (Nat.lt_of_le_of_lt (split_cnt sep_co) (by omega)) (fun w hw => by
                simp only [tgN_ap, R.ok_bind, wipeE, List.set_cons_succ, List.set_cons_zero, eCall_ap, eCons_ap, eNil_ap, eVar_s, eVar_z, numT_num (List.all_eq_true.mp h2 w hw)])]
            simp only [R.ok_bind, dTupL_ap, eVar_s, eVar_z, ofLst_lst, List.length_cons, List.length_nil]
            rw [small_of (by decide)]
            rfl
end K32

namespace K32
open PySem PySem.Spec PyProof.Rows L2 DD TL TX

theorem sp_len : (" " : Str).length ≠ 0 := by decide
theorem read_line {x : Str} (hx : x.length ≤ 999999) : m_read_line [.str x] = .ok (rd (Txt.split x " ")) := by
  have hs : Sm (Txt.split x " ") := Sm.split sep_sp hx
  unfold m_read_line
  rw [runD1]
  simp only [b_read_line, sSeq_ap, sSet_ap, toLst_ap, eVar_z, eC_ap, R.ok_bind, split_ok sp_len (show x.length ≤ 1000000 by omega), List.replicate, List.set_cons_succ, List.set_cons_zero, seqK_nx, sIf_ap, tst_ap, eBin_ap, eVar_s]
  cases e : Txt.split x " " with
  | nil => exact absurd e (split_ne sep_sp)
  | cons kw rest =>
    rw [e] at hs
    have ix : dIx (.lst ((kw :: rest).map D.str)) (.int 0) = .ok (.str kw) := dIx_l (n := 0) rfl
    simp only [ix, R.ok_bind, dEq_s, asB_bl, rd]
    by_cases h : kw = "kept"
    · rw [if_pos h, if_pos (beq_iff_eq.mpr h)]
      simp only [sRet_ap, eCall_ap, eCons_ap, eNil_ap, eVar_s, eVar_z, R.ok_bind, kept_parts hs, seqK_rt, outK_rt]
    · rw [if_neg h, if_neg (by simpa using h)]
      simp only [sNext_ap, R.ok_bind, seqK_nx, sSeq_ap, sIf_ap, tst_ap, eBin_ap, eVar_s, eVar_z, eC_ap, ix, cIn, asB_bl]
      cases ef : fms.lookup kw with
      | none =>
        rw [(fms_no ef).1]
        rfl
      | some fs =>
        rw [(fms_ok ef).2.2.1]
        simp only [Option.isSome_some, if_true, sRet_ap, eCall_ap, eCons_ap, eNil_ap, eVar_s, eVar_z, R.ok_bind, plain_parts ef hs, seqK_rt, outK_rt]
        rfl
theorem arr_len (l : List Nat) : (⟨l.toArray⟩ : Str).length = l.length := rfl
theorem arr_nil {l : List Nat} (h : l ≠ []) : ((⟨l.toArray⟩ : Str) == "") = false := beq_false_of_ne fun e => h (by
  have := congrArg TL.tl e
  rw [tl_mk] at this
  rw [this]; decide)
theorem dLen_arr {l : List Nat} (h : l.length ≤ 16777216) : dLen [.str ⟨l.toArray⟩] = .ok (.int (l.length : Nat)) := dLen_s (z := ⟨l.toArray⟩) h
theorem law_read {x : Str} (hx : x.length ≤ 999999) : m__law_read [.str x] = .ok (rd (Txt.split x " ")) := by
  have hs : Sm (Txt.split x " ") := Sm.split sep_sp hx
  unfold m__law_read
  rw [runD1]
  simp only [b__law_read, sSeq_ap, sSet_ap, toLst_ap, eVar_z, eC_ap, R.ok_bind, split_ok sp_len (show x.length ≤ 1000000 by omega), List.replicate, List.set_cons_succ, List.set_cons_zero, seqK_nx, sIf_ap, tst_ap, eBin_ap, eVar_s]
  cases e : Txt.split x " " with
  | nil => exact absurd e (split_ne sep_sp)
  | cons kw rest =>
    rw [e] at hs
    have hl := hs.tl.len
    have ix : dIx (.lst ((kw :: rest).map D.str)) (.int 0) = .ok (.str kw) := dIx_l (n := 0) rfl
    simp only [ix, R.ok_bind, dEq_s, asB_bl, rd]
    by_cases h : kw = "kept"
    · rw [if_pos h, if_pos (beq_iff_eq.mpr h)]
      simp only [sRet_ap, eCall_ap, eCons_ap, eNil_ap, eVar_s, eVar_z, R.ok_bind, read_kept hs, seqK_rt, outK_rt]
    · rw [if_neg h, if_neg (by simpa using h)]
      simp only [sNext_ap, R.ok_bind, seqK_nx, sSeq_ap, sSet_ap, eDisp, eAll, eC_ap, List.map_cons, List.map_nil, List.set_cons_succ, List.set_cons_zero, eVar_s, eVar_z, eBin_ap]
      have ix' : dIx (.lst (.str kw :: rest.map D.str)) (.int 0) = .ok (.str kw) := ix
      simp only [ix', R.ok_bind, dGet, asKey]
      cases ef : fms.lookup kw with
      | none =>
        rw [(fms_no ef).2]
        rfl
      | some fs =>
        obtain ⟨f1, f2, f3, f4, f5⟩ := fms_ok ef
        rw [f4]
        have hz : (⟨fs.toArray⟩ : Str).length ≤ 1000 := by rw [arr_len]; omega
        have hd : dLen [.str ⟨fs.toArray⟩] = .ok (.int (fs.length : Nat)) := dLen_arr (by omega)
        simp only [Option.getD_some, R.ok_bind, seqK_nx, List.set_cons_succ, List.set_cons_zero, sSeq_ap, sIf_ap, bOr_ap, tst_ap, eBin_ap, eVar_s, eVar_z, eC_ap, dEq_s, asB_bl, arr_nil f5, Bool.false_eq_true, if_false, eCall_ap, eCons_ap, eNil_ap, dLen_l, hd, dAdd_i, dNe_i, List.length_cons, List.length_map]
        by_cases hr : rest.length = fs.length
        · have e1 : (((rest.length + 1 : Nat) : Int) == ((fs.length : Nat) : Int) + 1) = true := by simp [hr]
          rw [e1]
          simp only [Bool.not_true, Bool.false_eq_true, if_false, sNext_ap, R.ok_bind, seqK_nx, sSeq_ap, sSetO_ap, eLst_ap, eCons_ap, eBin_ap, eVar_s, eVar_z, eC_ap, eNil_ap, ix', List.length_cons, List.length_nil, small_of (show 0 + 1 ≤ 16777216 by decide), guardR_t, List.set_cons_succ, List.set_cons_zero]
          rw [sFor_rng fs.length (by simp only [eCons_ap, eCall_ap, eVar_s, eVar_z, eNil_ap, R.ok_bind, hd]) rfl (show fs.length < 1000000 by omega)]
          rcases read_loop (.fz (.str x)) (.fz (.dic ((["start", "take", "done", "undone"] : List Str).map Sum.inr) [.str "n", .str "nwnnwn", .str "nwnnw", .str "nw"])) ⟨fs.toArray⟩ (.str kw) hz fs rest [] [] [.str kw] .un .un rfl rfl hr.symm f2 hs.tl (by simp; omega) with ⟨ds, x', y', e1, e2⟩ | ⟨e1, e2⟩
          · have e3 := e2
            simp only [List.nil_append, List.length_nil, List.map_cons, List.map_nil] at e3
            rw [show forR (tgN 5) b__law_read_0 _ _ = _ from e3, e1]
            rfl
          · have e3 := e2
            simp only [List.nil_append, List.length_nil, List.map_cons, List.map_nil] at e3
            rw [show forR (tgN 5) b__law_read_0 _ _ = _ from e3, e1]
            rfl
        · have e1 : (((rest.length + 1 : Nat) : Int) == ((fs.length : Nat) : Int) + 1) = false := by
            simp
            omega
          rw [e1]
          have := rdP_no (kw := kw) hr
          unfold rdP at this
          simp only [this, Bool.not_false, if_true, sRet_ap, eC_ap, R.ok_bind, seqK_rt, outK_rt]
end K32

namespace K32
open PySem PySem.Spec PyProof.Rows L2 DD TL TX

theorem numT_str {w : Str} (h : numT w = true) : dStr [.int (val w)] = .ok (.str w) := by
  obtain ⟨n, e1, e2, e3⟩ := num_of h
  rw [e1, dStr_i (bits_of e2), e3]
theorem rdPlain_str : ∀ {fs : List Nat} {ws : List Str} {ds : List D}, rdPlain fs ws = some ds → ∃ l : List (D × Str), ds = l.map (·.1) ∧ ws = l.map (·.2) ∧ ∀ a ∈ l, dStr [a.1] = .ok (.str a.2)
  | [], [], ds, h => by cases h; exact ⟨[], rfl, rfl, fun a h => by cases h⟩
  | f :: fs, w :: ws, ds, h => by
    have key : ∀ d : D, dStr [d] = .ok (.str w) → (rdPlain fs ws).map (d :: ·) = some ds → ∃ l : List (D × Str), ds = l.map (·.1) ∧ w :: ws = l.map (·.2) ∧ ∀ a ∈ l, dStr [a.1] = .ok (.str a.2) := fun d hd e => by
      cases e1 : rdPlain fs ws with
      | none => rw [e1] at e; cases e
      | some es =>
        rw [e1] at e
        cases e
        obtain ⟨l, i1, i2, i3⟩ := rdPlain_str e1
        refine ⟨(d, w) :: l, by rw [i1]; rfl, by rw [i2]; rfl, fun a h => ?_⟩
        rcases List.mem_cons.mp h with rfl | h
        · exact hd
        · exact i3 a h
    unfold rdPlain at h
    split at h
    · split at h
      · rename_i hn
        exact key _ (numT_str hn) h
      · cases h
    · split at h
      · exact key _ (dStr_s w) h
      · cases h
  | [], _ :: _, ds, h => by cases h
  | _ :: _, [], ds, h => by cases h
theorem sp1 : (" " : Str).length = 1 := by decide
theorem co1 : ("," : Str).length = 1 := by decide
theorem Sm.join {ws : List Str} (h : Sm ws) {y : Str} (hy : y.length = 1) : (ws.map (·.length)).sum + ws.length * y.length ≤ 16777216 := by
  unfold Sm at h
  rw [hy, Nat.mul_one]
  omega
theorem strs_comp {i : Nat} {src : En → R (List D)} {ρ : En} {l : List (D × Str)} (hs : src ρ = .ok (l.map (·.1))) (hn : noOwn ρ [i] = true) (hl : l.length ≤ 1000000) (hi : ∀ d, eVar i ((wipeE ρ [i]).set i (.fz d)) = .ok d) (h : ∀ a ∈ l, dStr [a.1] = .ok (.str a.2)) :
    eComp src [i] (tgN i) bYes (eCall dStr (eCons (eVar i) eNil)) ρ = .ok ((l.map (·.2)).map D.str) := by
  rw [eComp_map (l := l) (g := (·.1)) (f := fun a => D.str a.2) hs hn (by omega) (fun a ha => by
    simp only [tgN_ap, R.ok_bind, eCall_ap, eCons_ap, eNil_ap, hi, h a ha])]
  rw [List.map_map]; rfl
theorem line_plain {kw : Str} {fs : List Nat} {rest : List Str} {ds : List D} (h : rdPlain fs rest = some ds) (hk : kw ≠ "kept") (hs : Sm (kw :: rest)) :
    m_line_of [.tup (.str kw :: ds)] = .ok (.str (Txt.join " " (kw :: rest))) ∧ m__law_line [.tup (.str kw :: ds)] = .ok (.str (Txt.join " " (kw :: rest))) := by
  obtain ⟨l, e1, e2, e3⟩ := rdPlain_str h
  have ix : dIx (.tup (.str kw :: ds)) (.int 0) = .ok (.str kw) := dIx_t (n := 0) rfl
  have hl := hs.len
  have hL : ∀ a ∈ ((D.str kw, kw) :: l : List (D × Str)), dStr [a.1] = .ok (.str a.2) := fun a ha => by
    rcases List.mem_cons.mp ha with rfl | ha
    · exact dStr_s kw
    · exact e3 a ha
  have hj : ((kw :: rest).map (·.length)).sum + (kw :: rest).length * (" " : Str).length ≤ 16777216 := hs.join sp1
  have ew : (((D.str kw, kw) :: l : List (D × Str)).map (·.2)) = kw :: rest := by rw [e2]; rfl
  have hne : (!(kw == "kept")) = true := by simpa using hk
  have hlen : ((D.str kw, kw) :: l : List (D × Str)).length ≤ 1000000 := by
    rw [e2] at hl
    simpa using hl
  constructor
  · unfold m_line_of
    rw [runD1]
    simp only [b_line_of, sSeq_ap, sIf_ap, tst_ap, eBin_ap, eVar_z, eC_ap, R.ok_bind, ix, dNe_s, asB_bl, hne, if_true, sRet_ap]
    rw [strs_comp (l := (D.str kw, kw) :: l) (by rw [eVar_z, e1]; rfl) rfl hlen (fun d => rfl) hL, ew]
    simp only [R.ok_bind]
    rw [dJoin_s hj]
    rfl
  · unfold m__law_line
    rw [runD1]
    simp only [b__law_line, sSeq_ap, sIf_ap, tst_ap, eBin_ap, eVar_z, eC_ap, R.ok_bind, ix, dNe_s, asB_bl, hne, if_true, sRet_ap]
    rw [strs_comp (l := (D.str kw, kw) :: l) (by rw [eVar_z, e1]; rfl) rfl hlen (fun d => rfl) hL, ew]
    simp only [R.ok_bind]
    rw [dJoin_s hj]
    rfl
theorem lab_two {w : Str} (h : labT w = true) : ∃ a b, Txt.split w "." = [a, b] ∧ a ++ "." ++ b = w := by
  have e := join_split (x := w) sep_do
  unfold labT at h
  split at h
  · rename_i a b e1
    rw [e1, join_cons, TX.join_one] at e
    exact ⟨a, b, e1, e⟩
  · cases h
theorem app_len (a b : Str) : (a ++ b).length = a.length + b.length := by
  rw [len_tl, len_tl, len_tl, tl_append, List.length_append]
theorem app_asc (a b c : Str) : a ++ b ++ c = a ++ (b ++ c) := ext_tl (by simp only [tl_append, List.append_assoc])
theorem emp_app (a : Str) : Str.empty ++ a = a := ext_tl (by rw [tl_append]; rfl)
def glue (acc : Str) (ls : List Str) : Str := ls.foldl (fun a w => a ++ " " ++ w) acc
theorem glue_join : ∀ (ls pre : List Str), pre ≠ [] → glue (Txt.join " " pre) ls = Txt.join " " (pre ++ ls)
  | [], pre, _ => by rw [List.append_nil]; rfl
  | w :: ls, pre, h => by
    have key : ∀ p : List Str, p ≠ [] → Txt.join " " p ++ " " ++ w = Txt.join " " (p ++ [w]) := by
      intro p
      induction p with
      | nil => exact fun h => absurd rfl h
      | cons a p ih =>
        intro _
        cases p with
        | nil => rw [TX.join_one]; show a ++ " " ++ w = Txt.join " " [a, w]; rw [join_cons, TX.join_one]
        | cons b p =>
          show _ = Txt.join " " (a :: b :: (p ++ [w]))
          rw [join_cons, join_cons, app_asc, app_asc, app_asc, app_asc]
          congr 2
          rw [← app_asc]
          exact ih (by simp)
    show glue (Txt.join " " pre ++ " " ++ w) ls = _
    rw [key pre h, glue_join ls (pre ++ [w]) (by simp), List.append_assoc]; rfl
theorem line_step {P x y z : Sl} {acc w : Str} (h : labT w = true) (hl : acc.length + w.length + 1 ≤ 3000000) :
    (tgN 2 (labD w) [P, .fz (.str acc), x, y, z] >>= b__law_line_0) = .ok (.nx [P, .fz (.str (acc ++ " " ++ w)), .fz (labD w), y, z]) := by
  obtain ⟨a, b, e1, e2⟩ := lab_two h
  have hw : w.length = a.length + 1 + b.length := by rw [← e2, app_len, app_len]; rfl
  have i0 : dIx (labD w) (.int 0) = .ok (.str a) := by unfold labD; rw [e1]; rfl
  have i1 : dIx (labD w) (.int 1) = .ok (.str b) := by unfold labD; rw [e1]; rfl
  simp only [tgN_ap, R.ok_bind, List.set_cons_succ, List.set_cons_zero, b__law_line_0, sSet_ap, eBin_ap, eVar_s, eVar_z, eC_ap, i0, i1]
  have d1 : ("." : Str).length = 1 := by decide
  rw [dAdd_s (by rw [sp1]; omega)]
  simp only [R.ok_bind]
  rw [dAdd_s (by rw [app_len, sp1]; omega)]
  simp only [R.ok_bind]
  rw [dAdd_s (by rw [app_len, app_len, sp1, d1]; omega)]
  simp only [R.ok_bind]
  rw [dAdd_s (by rw [app_len, app_len, app_len, sp1, d1]; omega)]
  rw [← e2]
  simp only [R.ok_bind, app_asc]
theorem line_loop (P y z : Sl) : ∀ (ls : List Str) (acc : Str) (x : Sl), ls.all labT = true → acc.length + (ls.map (·.length)).sum + ls.length ≤ 3000000 →
    ∃ x', forR (tgN 2) b__law_line_0 (ls.map labD) [P, .fz (.str acc), x, y, z] = .ok (.nx [P, .fz (.str (glue acc ls)), x', y, z])
  | [], acc, x, _, _ => ⟨x, rfl⟩
  | w :: ls, acc, x, h, hl => by
    rw [List.all_cons, Bool.and_eq_true] at h
    rw [List.map_cons, List.sum_cons, List.length_cons] at hl
    have st := line_step (P := P) (x := x) (y := y) (z := z) (acc := acc) h.1 (by omega)
    rw [List.map_cons, forR_nx st]
    exact line_loop P y z ls (acc ++ " " ++ w) (.fz (labD w)) h.2 (by rw [app_len, app_len, sp1]; omega)
theorem line_kept {w1 w2 : Str} {ls : List Str} (h1 : numT w1 = true) (h2 : (Txt.split w2 ",").all numT = true) (h3 : ls.all labT = true) (hs : Sm ("kept" :: w1 :: w2 :: ls)) :
    m_line_of [.tup [.str "kept", .int (val w1), .tup ((Txt.split w2 ",").map fun w => .int (val w)), .tup (ls.map labD)]] = .ok (.str (Txt.join " " ("kept" :: w1 :: w2 :: ls))) ∧
    m__law_line [.tup [.str "kept", .int (val w1), .tup ((Txt.split w2 ",").map fun w => .int (val w)), .tup (ls.map labD)]] = .ok (.str (Txt.join " " ("kept" :: w1 :: w2 :: ls))) := by
  have hw2 : w2.length ≤ 1000000 := hs.mem (by simp)
  have hw1 : w1.length ≤ 1000000 := hs.mem (by simp)
  have hls := hs.tl.tl.tl
  have hl := hls.len
  have hcn := split_cnt (x := w2) sep_co
  have hcl := split_len (x := w2) sep_co
  have hne : (!(("kept" : Str) == "kept")) = false := by simp
  have ecs : ∀ (l : List Str), l.all numT = true → (l.map fun w => D.int (val w)) = ((l.map fun w => (D.int (val w), w)).map (·.1)) := fun l _ => by rw [List.map_map]; rfl
  have ecs2 : ∀ (l : List Str), (l.map fun w => (D.int (val w), w)).map (·.2) = l := fun l => by rw [List.map_map]; simp [Function.comp_def]
  have hj : ((Txt.split w2 ",").map (·.length)).sum + (Txt.split w2 ",").length * ("," : Str).length ≤ 16777216 := by
    rw [co1, Nat.mul_one]; omega
  have hst : ∀ a ∈ ((Txt.split w2 ",").map fun w => (D.int (val w), w)), dStr [a.1] = .ok (.str a.2) := fun a ha => by
    obtain ⟨w, hw, rfl⟩ := List.mem_map.mp ha
    exact numT_str (List.all_eq_true.mp h2 w hw)
  generalize hP : D.tup [.str "kept", .int (val w1), .tup ((Txt.split w2 ",").map fun w => .int (val w)), .tup (ls.map labD)] = P
  have i0 : dIx P (.int 0) = .ok (.str "kept") := by rw [← hP]; exact dIx_t (n := 0) rfl
  have i1 : dIx P (.int 1) = .ok (.int (val w1)) := by rw [← hP]; exact dIx_t (n := 1) rfl
  have i2 : dIx P (.int 2) = .ok (.tup ((Txt.split w2 ",").map fun w => .int (val w))) := by rw [← hP]; exact dIx_t (n := 2) rfl
  have i3 : dIx P (.int 3) = .ok (.tup (ls.map labD)) := by rw [← hP]; exact dIx_t (n := 3) rfl
  have hsum : ((("kept" : Str) :: w1 :: w2 :: ls).map (·.length)).sum + (("kept" : Str) :: w1 :: w2 :: ls).length ≤ 1000000 := hs
  simp only [List.map_cons, List.sum_cons, List.length_cons] at hsum
  constructor
  · unfold m_line_of
    rw [runD1]
    simp only [b_line_of, sSeq_ap, sIf_ap, tst_ap, eBin_ap, eVar_z, eC_ap, R.ok_bind, i0, dNe_s, asB_bl, hne, Bool.false_eq_true, if_false, sNext_ap, seqK_nx, sSet_ap, List.replicate]
    rw [strs_comp (l := (Txt.split w2 ",").map fun w => (D.int (val w), w)) (by
          simp only [eBin_ap, eVar_z, eC_ap, R.ok_bind, i2, items_t]
          rw [ecs _ h2]) rfl (by rw [List.length_map]; omega) (fun d => rfl) hst, ecs2]
    simp only [R.ok_bind]
    rw [dJoin_s hj, join_split sep_co]
    simp only [R.ok_bind, seqK_nx, List.set_cons_succ, List.set_cons_zero, sSeq_ap, sSet_ap, toLst_ap]
    rw [eComp_map (l := ls) (g := labD) (f := D.str) (by
          simp only [eBin_ap, eVar_z, eC_ap, R.ok_bind, i3, items_t]) rfl (by omega) (fun w hw => by
          obtain ⟨a, b, e1, e2⟩ := lab_two (List.all_eq_true.mp h3 w hw)
          have hww := hls.mem hw
          have hwl : w.length = a.length + 1 + b.length := by rw [← e2, app_len, app_len]; rfl
          have d1 : ("." : Str).length = 1 := by decide
          unfold labD
          rw [e1]
          simp only [wipeE, List.map_cons, List.map_nil, tgT_ap, List.length_cons, List.length_nil, Nat.zero_add, Nat.reduceAdd, beq_self_eq_true, guardR_t, R.ok_bind, tgsCons_ap, tgN_ap, tgsNil_ap, List.set_cons_succ, List.set_cons_zero, eJs, eVar_s, eVar_z, eC_ap, dFmt]
          rw [small_of (show a.length ≤ _ by omega), small_of (show b.length ≤ _ by omega)]
          simp only [guardR_t, R.ok_bind]
          rw [emp_app, small_of (show a.length ≤ _ by omega)]
          simp only [guardR_t, R.ok_bind]
          rw [small_of (by rw [app_len, d1]; omega)]
          simp only [guardR_t, R.ok_bind]
          rw [e2, small_of (by omega)]
          rfl)]
    simp only [R.ok_bind, seqK_nx, List.set_cons_succ, List.set_cons_zero, sRet_ap, eC_ap, eBin_ap, toLst_ap, eLst_ap, eCons_ap, eCall_ap, eVar_z, eNil_ap, i1, numT_str h1, eVar_s, List.length_cons, List.length_nil]
    rw [small_of (by decide)]
    simp only [guardR_t, R.ok_bind]
    rw [dAdd_l (by simp; omega)]
    simp only [R.ok_bind, ofLst_lst]
    rw [show ([D.str "kept", .str w1, .str w2] ++ ls.map D.str) = ((("kept" : Str) :: w1 :: w2 :: ls).map D.str) from rfl, dJoin_s (hs.join sp1)]
    rfl
  · unfold m__law_line
    rw [runD1]
    simp only [b__law_line, sSeq_ap, sIf_ap, tst_ap, eBin_ap, eVar_z, eC_ap, R.ok_bind, i0, dNe_s, asB_bl, hne, Bool.false_eq_true, if_false, sNext_ap, seqK_nx, sSet_ap, List.replicate, eCall_ap, eCons_ap, eNil_ap, i1, numT_str h1]
    rw [strs_comp (l := (Txt.split w2 ",").map fun w => (D.int (val w), w)) (by
          simp only [eBin_ap, eVar_z, eC_ap, R.ok_bind, i2, items_t]
          rw [ecs _ h2]) rfl (by rw [List.length_map]; omega) (fun d => rfl) hst, ecs2]
    simp only [R.ok_bind]
    rw [dJoin_s hj, join_split sep_co]
    have k5 : ("kept " : Str).length = 5 := by decide
    have k4 : ("kept" : Str).length = 4 := by decide
    simp only [R.ok_bind]
    rw [dAdd_s (by rw [k5]; omega)]
    simp only [R.ok_bind]
    rw [dAdd_s (by rw [app_len, k5, sp1]; omega)]
    simp only [R.ok_bind]
    rw [dAdd_s (by rw [app_len, app_len, k5, sp1]; omega)]
    have ek : "kept " ++ w1 ++ " " ++ w2 = Txt.join " " ["kept", w1, w2] := by
      rw [join_cons, join_cons, TX.join_one]
      refine ext_tl ?_
      simp only [tl_append, List.append_assoc]
      have : tl "kept " = tl "kept" ++ tl " " := by decide
      rw [this, List.append_assoc]
    have hlen : ("kept " ++ w1 ++ " " ++ w2).length = 6 + w1.length + w2.length := by
      rw [app_len, app_len, app_len, k5, sp1]; omega
    obtain ⟨x', e⟩ := line_loop (.fz P) .un .un ls ("kept " ++ w1 ++ " " ++ w2) .un h3 (by rw [hlen]; omega)
    simp only [R.ok_bind, seqK_nx, List.set_cons_succ, List.set_cons_zero, sSeq_ap, sFor_ap, eBin_ap, eVar_z, eC_ap, i3, items_t, e, sRet_ap, eVar_s, outK_rt]
    rw [ek, glue_join ls _ (by simp)]
    rfl
end K32

namespace K32
open PySem PySem.Spec PyProof.Rows L2 DD TL TX

theorem rd_cons (kw : Str) (rest : List Str) : rd (kw :: rest) = if kw = "kept" then rdKept rest else match fms.lookup kw with
    | some fs => (match rdPlain fs rest with
      | some ds => .tup (.str kw :: ds)
      | none => .non)
    | none => .non := rfl
theorem rd_line {ws : List Str} {p : D} (h : rd ws = p) (hp : p ≠ .non) (hs : Sm ws) : m_line_of [p] = .ok (.str (Txt.join " " ws)) ∧ m__law_line [p] = .ok (.str (Txt.join " " ws)) := by
  cases ws with
  | nil => exact absurd h.symm hp
  | cons kw rest =>
    rw [rd_cons] at h
    by_cases hk : kw = "kept"
    · rw [if_pos hk] at h
      cases rest with
      | nil => exact absurd h.symm hp
      | cons w1 rest =>
        cases rest with
        | nil => exact absurd h.symm hp
        | cons w2 ls =>
          rw [rdKept_cons] at h
          split at h
          · rename_i hc
            rw [Bool.and_eq_true, Bool.and_eq_true] at hc
            subst hk
            rw [← h]
            exact line_kept hc.1.1 hc.1.2 hc.2 hs
          · exact absurd h.symm hp
    · rw [if_neg hk] at h
      split at h
      · rename_i fs ef
        split at h
        · rename_i ds ed
          rw [← h]
          exact line_plain ed hk hs
        · exact absurd h.symm hp
      · exact absurd h.symm hp

/-! ### the same -/
def Pl : Nat → D → Prop
  | n + 1, .tup ds => ds.length < 1000000 ∧ ∀ d ∈ ds, Pl n d
  | _ + 1, .int _ => True
  | _ + 1, .str _ => True
  | _ + 1, .non => True
  | _, _ => False
theorem isi_of {d : D} {T : String} {b : Bool} (h : kitB (tyName d) T = some b) : dIsi T d = .ok (.bl b) := by
  unfold dIsi
  rw [h]
theorem k_ib : kitB "int" "bool" = some false := by decide +kernel
theorem isi_ib (i : Int) : dIsi "bool" (.int i) = .ok (.bl false) := isi_of k_ib
theorem k_ii : kitB "int" "int" = some true := by decide +kernel
theorem isi_ii (i : Int) : dIsi "int" (.int i) = .ok (.bl true) := isi_of k_ii
theorem k_sb : kitB "str" "bool" = some false := by decide +kernel
theorem isi_sb (i : Str) : dIsi "bool" (.str i) = .ok (.bl false) := isi_of k_sb
theorem k_si : kitB "str" "int" = some false := by decide +kernel
theorem isi_si (i : Str) : dIsi "int" (.str i) = .ok (.bl false) := isi_of k_si
theorem k_ss : kitB "str" "str" = some true := by decide +kernel
theorem isi_ss (i : Str) : dIsi "str" (.str i) = .ok (.bl true) := isi_of k_ss
theorem k_tb : kitB "tuple" "bool" = some false := by decide +kernel
theorem isi_tb (i : List D) : dIsi "bool" (.tup i) = .ok (.bl false) := isi_of k_tb
theorem k_ti : kitB "tuple" "int" = some false := by decide +kernel
theorem isi_ti (i : List D) : dIsi "int" (.tup i) = .ok (.bl false) := isi_of k_ti
theorem k_ts : kitB "tuple" "str" = some false := by decide +kernel
theorem isi_ts (i : List D) : dIsi "str" (.tup i) = .ok (.bl false) := isi_of k_ts
theorem k_tt : kitB "tuple" "tuple" = some true := by decide +kernel
theorem isi_tt (i : List D) : dIsi "tuple" (.tup i) = .ok (.bl true) := isi_of k_tt
theorem k_nb : kitB "NoneType" "bool" = some false := by decide +kernel
theorem isi_nb  : dIsi "bool" (.non) = .ok (.bl false) := isi_of k_nb
theorem k_ni : kitB "NoneType" "int" = some false := by decide +kernel
theorem isi_ni  : dIsi "int" (.non) = .ok (.bl false) := isi_of k_ni
theorem k_ns : kitB "NoneType" "str" = some false := by decide +kernel
theorem isi_ns  : dIsi "str" (.non) = .ok (.bl false) := isi_of k_ns
theorem k_nt : kitB "NoneType" "tuple" = some false := by decide +kernel
theorem isi_nt  : dIsi "tuple" (.non) = .ok (.bl false) := isi_of k_nt
theorem k_nl : kitB "NoneType" "list" = some false := by decide +kernel
theorem isi_nl  : dIsi "list" (.non) = .ok (.bl false) := isi_of k_nl
theorem eComp_rng {f : En → R (List D)} {vs : List Nat} {tg : D → En → R En} {elt : En → R D} {ρ : En} {i : Int} (n : Nat) (g : Nat → D) (h : f ρ = .ok [.int i]) (hi : i = (n : Nat)) (hn : n < 1000000) (ho : noOwn ρ vs = true) (hb : ∀ k, k < n → (tg (.int (k : Nat)) (wipeE ρ vs) >>= elt) = .ok (g k)) :
    eComp (fun ρ => f ρ >>= dRng1) vs tg bYes elt ρ = .ok ((List.range n).map g) := by
  refine eComp_map (l := List.range n) (g := fun k => D.int (0 + ((k : Nat) : Int))) ?_ ho (by rw [List.length_range]; omega) fun k hk => ?_
  · show (f ρ >>= dRng1) = _
    rw [h, hi, R.ok_bind, rng_nat hn, List.range_eq_range']
  · rw [Int.zero_add]
    exact hb k (List.mem_range.mp hk)
theorem same_succ (n : Nat) (ds : List D) : m__law_same (n + 1) ds = runD 2 1 (b__law_same (m__law_same n)) ds := rfl
/-- the tests of a kind, as bare functions: nothing to unfold -/
theorem same_int (n : Nat) (i : Int) : m__law_same (n + 1) [.int i, .int i] = .ok (.bl true) := by
  rw [same_succ, runD2]
  have f1 := isi_ib i
  have f2 := isi_ii i
  unfold b__law_same
  generalize hG : eComp _ _ _ _ _ = G
  clear hG
  generalize dIsi "bool" = IB at *
  generalize dIsi "int" = II at *
  generalize dIsi "str" = IS at *
  generalize dIsi "tuple" = IT at *
  generalize dIsi "list" = IL at *
  simp only [sSeq_ap, sIf_ap, bOr_ap, tst_ap, eVar_s, eVar_z, R.okb, f1, f2, asB_bl, Bool.false_eq_true, if_false, if_true, sNext_ap, seqK_nx, sRet_ap, vAnd_ap, eBin_ap, dEq_i, beq_self_eq_true, seqK_rt, outK_rt]
theorem same_s (n : Nat) (i : Str) : m__law_same (n + 1) [.str i, .str i] = .ok (.bl true) := by
  rw [same_succ, runD2]
  have f1 := isi_sb i
  have f2 := isi_si i
  have f3 := isi_ss i
  unfold b__law_same
  generalize hG : eComp _ _ _ _ _ = G
  clear hG
  generalize dIsi "bool" = IB at *
  generalize dIsi "int" = II at *
  generalize dIsi "str" = IS at *
  generalize dIsi "tuple" = IT at *
  generalize dIsi "list" = IL at *
  simp only [sSeq_ap, sIf_ap, bOr_ap, tst_ap, eVar_s, eVar_z, R.okb, f1, f2, f3, asB_bl, Bool.false_eq_true, if_false, if_true, sNext_ap, seqK_nx, sRet_ap, vAnd_ap, eBin_ap, dEq_s, beq_self_eq_true, seqK_rt, outK_rt]
theorem same_non (n : Nat) : m__law_same (n + 1) [.non, .non] = .ok (.bl true) := by
  rw [same_succ, runD2]
  have f1 := isi_nb
  have f2 := isi_ni
  have f3 := isi_ns
  have f4 := isi_nt
  have f5 := isi_nl
  unfold b__law_same
  generalize hG : eComp _ _ _ _ _ = G
  clear hG
  generalize dIsi "bool" = IB at *
  generalize dIsi "int" = II at *
  generalize dIsi "str" = IS at *
  generalize dIsi "tuple" = IT at *
  generalize dIsi "list" = IL at *
  simp only [sSeq_ap, sIf_ap, bOr_ap, tst_ap, eVar_s, eVar_z, R.okb, f1, f2, f3, f4, f5, asB_bl, Bool.false_eq_true, if_false, if_true, sNext_ap, seqK_nx, sRet_ap, vAnd_ap, eBin_ap, eC_ap, dIsN_n, DD.isNon, seqK_rt, outK_rt]
theorem same_tup (n : Nat) (ds : List D) (h1 : ds.length < 1000000) (ih : ∀ d ∈ ds, m__law_same n [d, d] = .ok (.bl true)) : m__law_same (n + 1) [.tup ds, .tup ds] = .ok (.bl true) := by
  rw [same_succ, runD2]
  have f1 := isi_tb ds
  have f2 := isi_ti ds
  have f3 := isi_ts ds
  have f4 := isi_tt ds
  unfold b__law_same
  generalize hG : eComp _ _ _ _ _ = G
  have hc : G [.fz (.tup ds), .fz (.tup ds), .un] = .ok ((List.range ds.length).map fun _ => D.bl true) := by
    rw [← hG, eComp_rng ds.length (fun _ => D.bl true) (by simp only [eCons_ap, eCall_ap, eVar_z, eNil_ap, R.okb, dLen_t]) rfl h1 rfl (fun k hk => by
        have ix : dIx (.tup ds) (.int (k : Nat)) = .ok (ds[k]) := dIx_t (List.getElem?_eq_getElem hk)
        simp only [tgN_ap, R.okb, wipeE, List.set_cons_succ, List.set_cons_zero, eCall_ap, eCons_ap, eBin_ap, eVar_s, eVar_z, eNil_ap, ix]
        exact ih _ (List.getElem_mem hk))]
  clear hG
  generalize dIsi "bool" = IB at *
  generalize dIsi "int" = II at *
  generalize dIsi "str" = IS at *
  generalize dIsi "tuple" = IT at *
  generalize dIsi "list" = IL at *
  refine seq_go (if_f (by simp only [bOr_ap, tst_ap, eVar_z, eVar_s, R.okb, f1, asB_bl, Bool.false_eq_true, if_false]) rfl) ?_
  refine seq_go (if_f (by simp only [tst_ap, eVar_z, R.okb, f2, asB_bl]) rfl) ?_
  refine seq_go (if_f (by simp only [tst_ap, eVar_z, R.okb, f3, asB_bl]) rfl) ?_
  refine seq_rt (if_t (by simp only [tst_ap, eVar_z, R.okb, f4, asB_bl]) (seq_go' (if_f ?_ rfl) (ret_of ?_)))
  · simp only [bOr_ap, bNot_ap, tst_ap, eVar_z, eVar_s, R.okb, f4, asB_bl, Bool.not_true, Bool.false_eq_true, if_false, eBin_ap, eCall_ap, eCons_ap, eNil_ap, dLen_t, dNe_i, beq_self_eq_true]
  · have hc' : G (.fz (.tup ds) :: .fz (.tup ds) :: List.replicate 1 .un) = .ok ((List.range ds.length).map fun _ => D.bl true) := hc
    rw [eCall_ap, hc', R.okb, dAll_map (fun _ => true)]
    simp
theorem same_refl (n : Nat) : ∀ (d : D), Pl n d → m__law_same n [d, d] = .ok (.bl true) := by
  induction n with
  | zero => intro d h; unfold Pl at h; exact h.elim
  | succ n ih =>
    intro d h
    cases d with
    | int i => exact same_int n i
    | str i => exact same_s n i
    | non => exact same_non n
    | tup ds => exact same_tup n ds h.1 fun d hd => ih d (h.2 d hd)
    | bl _ => unfold Pl at h; exact h.elim
    | lst _ => unfold Pl at h; exact h.elim
    | rol _ => unfold Pl at h; exact h.elim
    | dic _ _ => unfold Pl at h; exact h.elim
theorem same_str (s : Str) : m__law_same 12 [.str s, .str s] = .ok (.bl true) := same_refl 12 _ trivial
theorem pl_i (n : Nat) (i : Int) : Pl (n + 1) (.int i) := trivial
theorem pl_s (n : Nat) (i : Str) : Pl (n + 1) (.str i) := trivial
theorem rdPlain_pl : ∀ {fs : List Nat} {ws : List Str} {ds : List D}, rdPlain fs ws = some ds → ∀ d ∈ ds, ∀ n, Pl (n + 1) d
  | [], [], ds, h, d, hd => by cases h; cases hd
  | f :: fs, w :: ws, ds, h, d, hd => by
    have key : ∀ e : D, (∀ n, Pl (n + 1) e) → (rdPlain fs ws).map (e :: ·) = some ds → ∀ n, Pl (n + 1) d := fun e he e' => by
      cases e1 : rdPlain fs ws with
      | none => rw [e1] at e'; cases e'
      | some es =>
        rw [e1] at e'
        cases e'
        rcases List.mem_cons.mp hd with rfl | hd
        · exact he
        · exact rdPlain_pl e1 d hd
    unfold rdPlain at h
    split at h
    · split at h
      · exact key _ (fun n => pl_i n _) h
      · cases h
    · split at h
      · exact key _ (fun n => pl_s n _) h
      · cases h
  | [], _ :: _, ds, h, _, _ => by cases h
  | _ :: _, [], ds, h, _, _ => by cases h
theorem rd_pl {ws : List Str} (hs : Sm ws) : Pl 12 (rd ws) := by
  cases ws with
  | nil => exact trivial
  | cons kw rest =>
    have hl := hs.len
    rw [List.length_cons] at hl
    rw [rd_cons]
    by_cases hk : kw = "kept"
    · rw [if_pos hk]
      cases rest with
      | nil => exact trivial
      | cons w1 rest =>
        cases rest with
        | nil => exact trivial
        | cons w2 ls =>
          rw [rdKept_cons]
          have hw2 : w2.length ≤ 1000000 := hs.mem (by simp)
          have hcn := split_cnt (x := w2) sep_co
          have hcl := split_len (x := w2) sep_co
          have hsum : ((kw :: w1 :: w2 :: ls).map (·.length)).sum + (kw :: w1 :: w2 :: ls).length ≤ 1000000 := hs
          simp only [List.map_cons, List.sum_cons, List.length_cons] at hsum
          split
          · refine ⟨by simp only [List.length_cons, List.length_nil]; omega, fun d hd => ?_⟩
            rcases List.mem_cons.mp hd with rfl | hd
            · exact trivial
            rcases List.mem_cons.mp hd with rfl | hd
            · exact trivial
            rcases List.mem_cons.mp hd with rfl | hd
            · refine ⟨by rw [List.length_map]; omega, fun d hd => ?_⟩
              obtain ⟨w, _, rfl⟩ := List.mem_map.mp hd
              exact trivial
            rcases List.mem_cons.mp hd with rfl | hd
            · refine ⟨by rw [List.length_map]; omega, fun d hd => ?_⟩
              obtain ⟨w, hw, rfl⟩ := List.mem_map.mp hd
              have hww : w.length ≤ 1000000 := hs.tl.tl.tl.mem hw
              have hwl := split_cnt (x := w) sep_do
              have hlw := sum_ge hw
              refine ⟨by rw [List.length_map]; omega, fun d hd => ?_⟩
              obtain ⟨u, _, rfl⟩ := List.mem_map.mp hd
              exact trivial
            · cases hd
          · exact trivial
    · rw [if_neg hk]
      split
      · rename_i fs ef
        split
        · rename_i ds ed
          have e2 := (rdPlain_len ed)
          have e3 := (fms_ok ef).1
          refine ⟨by rw [List.length_cons]; omega, fun d hd => ?_⟩
          rcases List.mem_cons.mp hd with rfl | hd
          · exact trivial
          · exact rdPlain_pl ed d hd 10
        · exact trivial
      · exact trivial
end K32

namespace K32
open PySem PySem.Spec PyProof.Rows L2 DD TL TX

/-- a loop over range(n), an invariant kept -/
theorem forRng_inv {tg : D → En → R En} {body : En → R Out} {n : Nat} (P : Nat → En → Prop) (hs : ∀ k, k < n → ∀ ρ, P k ρ → ∃ ρ', (tg (.int (k : Nat)) ρ >>= body) = .ok (.nx ρ') ∧ P (k + 1) ρ') :
    ∀ ρ, P 0 ρ → ∃ ρ', forR tg body ((List.range' 0 n).map fun (k : Nat) => D.int (0 + (k : Int))) ρ = .ok (.nx ρ') ∧ P n ρ' := by
  have key : ∀ (m a : Nat), a + m = n → ∀ ρ, P a ρ → ∃ ρ', forR tg body ((List.range' a m).map fun (k : Nat) => D.int (0 + (k : Int))) ρ = .ok (.nx ρ') ∧ P n ρ' := by
    intro m
    induction m with
    | zero => intro a h ρ hp; exact ⟨ρ, rfl, by rw [← h]; exact hp⟩
    | succ m ih =>
      intro a h ρ hp
      obtain ⟨ρ1, e1, p1⟩ := hs a (by omega) ρ hp
      obtain ⟨ρ2, e2, p2⟩ := ih (a + 1) (by omega) ρ1 p1
      refine ⟨ρ2, ?_, p2⟩
      rw [List.range'_succ, List.map_cons, Int.zero_add, forR_nx e1]
      exact e2
  intro ρ hp
  exact key n 0 (by omega) ρ hp
theorem dMul_r {i j : Int} (h : within64 j = true) : dMul (.int i) (.int j) = .ok (.int (i * j)) := dMul_i (by rw [h, Bool.or_true])
theorem dMul_l {i j : Int} (h : within64 i = true) : dMul (.int i) (.int j) = .ok (.int (i * j)) := dMul_i (by rw [h, Bool.true_or])
def Bd (l : List Int) : Prop := ∀ d ∈ l, 0 ≤ d ∧ d < 1009
theorem m1009 (i : Int) : 0 ≤ i % 1009 ∧ i % 1009 < 1009 := ⟨Int.emod_nonneg _ (by decide), Int.emod_lt_of_pos _ (by decide)⟩
theorem app_of {i : Nat} {f : En → R D} {ρ : En} {ds : List D} {d : D} (h1 : eOwn i ρ = .ok ds) (h2 : f ρ = .ok d) (h3 : ds.length < 16777216) : sApp i f ρ = .ok (.nx (ρ.set i (.ow (ds ++ [d])))) := by
  rw [sApp_ap, h1, R.okb, h2, R.okb, decide_eq_true h3, guardR_t, R.okb]
def oneOf (i : Int) (k : Nat) : Int := ((((if i < 0 then -i else i) + 1) * 48271 + ((k : Int) + 1) * 69621)) % 2147483647
def lastOf (i : Int) (k : Nat) : Int := ((oneOf i k * 16807 + (k : Int) * 7919) % 2147483629) / 7
theorem draws_step {c n : D} {i : Int} {ds : List Int} {rest : Int} {x y : Sl} {k : Nat} (hc : c = .int i) (hl : ds.length < 16777216) (hb : Bd ds) :
    ∃ ρ', (tgN 4 (.int (k : Nat)) [.fz c, .fz n, .ow (ds.map D.int), .fz (.int rest), x, y] >>= b__law_draws_0) = .ok (.nx ρ') ∧
      ∃ (e : Int) (r : Int) (x' y' : Sl), ρ' = [.fz c, .fz n, .ow ((ds ++ [e]).map D.int), .fz (.int r), x', y'] ∧ Bd (ds ++ [e]) := by
  subst hc
  have hB : ∀ e : Int, 0 ≤ e ∧ e < 1009 → Bd (ds ++ [e]) := fun e he d hd => by
    rcases List.mem_append.mp hd with hd | hd
    · exact hb d hd
    · rw [List.mem_singleton.mp hd]; exact he
  have hm : ∀ e : Int, ds.map D.int ++ [D.int e] = (ds ++ [e]).map D.int := fun e => by rw [List.map_append]; rfl
  rw [tgN_ap, R.okb]
  simp only [List.set_cons_succ, List.set_cons_zero]
  unfold b__law_draws_0
  by_cases hr : 0 < rest
  · refine ⟨_, if_t ?_ (seq_go' (app_of (ds := ds.map D.int) (d := .int (rest % 1009)) ?_ ?_ (by rw [List.length_map]; exact hl)) (set_of (d := .int (rest / 1009)) ?_)), ?_⟩
    · simp only [tst_ap, eBin_ap, eVar_s, eVar_z, eC_ap, R.okb, dGt_i, asB_bl, decide_eq_true hr]
    · simp only [eOwn_s, eOwn_z]
    · simp only [eBin_ap, eCall_ap, eCons_ap, eNil_ap, eVar_s, eVar_z, eC_ap, R.okb, dInt_i]
      exact dMod_i (by decide)
    · simp only [List.set_cons_succ, List.set_cons_zero, eBin_ap, eVar_s, eVar_z, eC_ap, R.okb]
      exact dFdiv_i (by decide) (by decide)
    · refine ⟨rest % 1009, rest / 1009, .fz (.int (k : Nat)), y, ?_, hB _ (m1009 _)⟩
      simp only [List.set_cons_succ, List.set_cons_zero, hm]
  · refine ⟨_, if_f ?_ (seq_go' (set_of (d := .int (oneOf i k)) ?_) (app_of (ds := ds.map D.int) (d := .int (lastOf i k % 1009)) ?_ ?_ (by rw [List.length_map]; exact hl))), ?_⟩
    · simp only [tst_ap, eBin_ap, eVar_s, eVar_z, eC_ap, R.okb, dGt_i, asB_bl, decide_eq_false hr]
    · simp only [eBin_ap, eCall_ap, eCons_ap, eNil_ap, eVar_s, eVar_z, eC_ap, R.okb, dInt_i, dAbs_i, dAdd_i]
      rw [dMul_r (by decide)]
      simp only [R.okb]
      rw [dMul_r (by decide)]
      simp only [R.okb, dAdd_i, dInt_i]
      exact dMod_i (by decide)
    · simp only [List.set_cons_succ, List.set_cons_zero, eOwn_s, eOwn_z]
    · simp only [List.set_cons_succ, List.set_cons_zero, eBin_ap, eCall_ap, eCons_ap, eNil_ap, eVar_s, eVar_z, eC_ap, R.okb, dInt_i, dAdd_i]
      rw [dMul_r (by decide)]
      simp only [R.okb]
      rw [dMul_r (by decide)]
      simp only [R.okb, dAdd_i, dInt_i]
      rw [dMod_i (by decide)]
      simp only [R.okb]
      rw [dFdiv_i (by decide) (by decide)]
      simp only [R.okb]
      exact dMod_i (by decide)
    · refine ⟨lastOf i k % 1009, rest, .fz (.int (k : Nat)), .fz (.int (oneOf i k)), ?_, hB _ (m1009 _)⟩
      simp only [List.set_cons_succ, List.set_cons_zero, hm]
theorem pow18 : dPow (.int 10) (.int 18) = .ok (.int (10 ^ 18)) := rfl
theorem law_draws (c : Int) {n : Nat} (hn : n < 1000) : ∃ ds : List Int, m__law_draws [.int c, .int (n : Nat)] = .ok (.lst (ds.map D.int)) ∧ ds.length = n ∧ Bd ds := by
  unfold m__law_draws
  rw [runD2]
  unfold b__law_draws
  generalize hr : (if c < 0 then -c else c) = r0
  have h3 : ∃ r1 : Int, sIf (tst (eBin dLt (eVar 3) (eBin dPow (eC (.int 10)) (eC (.int 18))))) (sSet 3 (eC (.int 0))) sNext [.fz (.int c), .fz (.int (n : Nat)), .ow [], .fz (.int r0), .un, .un] = .ok (.nx [.fz (.int c), .fz (.int (n : Nat)), .ow [], .fz (.int r1), .un, .un]) := by
    by_cases h : r0 < 10 ^ 18
    · refine ⟨0, if_t ?_ (set_of rfl)⟩
      simp only [tst_ap, eBin_ap, eVar_s, eVar_z, eC_ap, R.okb, pow18, dLt_i, asB_bl, decide_eq_true h]
    · refine ⟨r0, if_f ?_ rfl⟩
      simp only [tst_ap, eBin_ap, eVar_s, eVar_z, eC_ap, R.okb, pow18, dLt_i, asB_bl, decide_eq_false h]
  obtain ⟨r1, h3⟩ := h3
  obtain ⟨ρ', e1, ds, r2, x, y, e2, e3, e4⟩ := forRng_inv (tg := tgN 4) (body := b__law_draws_0) (n := n) (fun k ρ => ∃ (ds : List Int) (rest : Int) (x y : Sl), ρ = [.fz (.int c), .fz (.int (n : Nat)), .ow (ds.map D.int), .fz (.int rest), x, y] ∧ ds.length = k ∧ Bd ds)
    (fun k hk ρ ⟨ds, rest, x, y, e, hl, hb⟩ => by
      subst e
      obtain ⟨ρ', e1, e, r, x', y', e2, e3⟩ := draws_step (c := .int c) (n := .int (n : Nat)) (rest := rest) (x := x) (y := y) (k := k) rfl (by omega) hb
      exact ⟨ρ', e1, ds ++ [e], r, x', y', e2, by rw [List.length_append, hl]; rfl, e3⟩)
    [.fz (.int c), .fz (.int (n : Nat)), .ow [], .fz (.int r1), .un, .un] ⟨[], r1, .un, .un, rfl, rfl, fun d h => by cases h⟩
  refine ⟨ds, ?_, e3, e4⟩
  refine seq_go (setO_of (ds := []) ?_) ?_
  · simp only [eLst_ap, eNil_ap, R.okb]; rfl
  refine seq_go (set_of (d := .int r0) ?_) ?_
  · simp only [List.replicate, List.set_cons_succ, List.set_cons_zero, eCall_ap, eCons_ap, eNil_ap, eVar_z, R.okb, dAbs_i, hr]
  simp only [List.replicate, List.set_cons_succ, List.set_cons_zero]
  refine seq_go h3 ?_
  refine seq_go (ρ' := ρ') ?_ ?_
  · rw [sFor_rng n (by simp only [eCons_ap, eVar_s, eVar_z, eNil_ap, R.okb]) rfl (by omega)]
    exact e1
  · subst e2
    rfl
end K32

namespace K32
open PySem PySem.Spec PyProof.Rows L2 DD TL TX

theorem let_ix (r : Int) : ∃ c, dIx (.str LET) (.int (r % 26)) = .ok (.str ⟨#[c]⟩) ∧ c ∈ TL.tl LET := by
  have h1 : 0 ≤ r % 26 := Int.emod_nonneg _ (by decide)
  have h2 : r % 26 < 26 := Int.emod_lt_of_pos _ (by decide)
  have hl : (TL.tl LET).length = 26 := by decide
  have hlt : (r % 26).toNat < (TL.tl LET).length := by rw [hl]; omega
  refine ⟨(TL.tl LET)[(r % 26).toNat], ?_, List.getElem_mem hlt⟩
  have e : r % 26 = (((r % 26).toNat : Nat) : Int) := by omega
  have h3 : LET.length ≤ 16777216 := by decide
  have := dIx_s (z := LET) (n := (r % 26).toNat) h3 (List.getElem?_eq_getElem hlt)
  rw [← e] at this
  exact this
def Nm (w : Str) (n : Nat) : Prop := 0 < w.length ∧ w.length ≤ n ∧ allIn LET w = true
theorem nm_one {c : Nat} (h : c ∈ TL.tl LET) : Nm ⟨#[c]⟩ 1 := ⟨by show 0 < 1; omega, Nat.le_refl 1, by
  unfold allIn
  rw [List.all_eq_true]
  intro d hd
  have : d = c := by simpa [TL.tl] using hd
  rw [this]
  exact decide_eq_true h⟩
theorem nm_app {u w : Str} {a b : Nat} (h : Nm u a) (h' : Nm w b) : Nm (u ++ w) (a + b) := by
  obtain ⟨h1, h2, h3⟩ := h
  obtain ⟨g1, g2, g3⟩ := h'
  refine ⟨by rw [app_len]; omega, by rw [app_len]; omega, ?_⟩
  unfold allIn at *
  rw [tl_append, List.all_append, h3, g3]; rfl
theorem nm_rev {w : Str} {n : Nat} (h : Nm w n) : Nm (revS w) n := by
  obtain ⟨h1, h2, h3⟩ := h
  have hl : (revS w).length = w.length := by rw [len_tl, len_tl]; show (TL.tl w).reverse.length = _; rw [List.length_reverse]
  refine ⟨by omega, by omega, ?_⟩
  unfold allIn at *
  show (TL.tl w).reverse.all _ = true
  rw [List.all_reverse]; exact h3
theorem nm_T {w : Str} (h : Nm w 12) : nmT w = true := by
  unfold nmT
  rw [len12_iff.mpr ⟨h.1, h.2.1⟩, h.2.2]; rfl
theorem name_step {a b : Sl} {rest : Int} {w : Str} {k : Nat} {x : Sl} (hk : k < 11) (hw : Nm w (k + 1)) :
    ∃ ρ', (tgN 5 (.int (k : Nat)) [a, b, .fz (.str LET), .fz (.int rest), .fz (.str w), x] >>= b__law_name_0) = .ok (.nx ρ') ∧
      ∃ (r : Int) (u : Str) (x' : Sl), ρ' = [a, b, .fz (.str LET), .fz (.int r), .fz (.str u), x'] ∧ Nm u (k + 1 + 1) := by
  rw [tgN_ap, R.okb]
  simp only [List.set_cons_succ, List.set_cons_zero]
  unfold b__law_name_0
  by_cases hr : 0 < rest
  · obtain ⟨c, e1, e2⟩ := let_ix rest
    have hn := nm_app (nm_one e2) hw
    refine ⟨_, if_t ?_ (seq_go' (set_of (d := .str (⟨#[c]⟩ ++ w)) ?_) (set_of (d := .int (rest / 26)) ?_)), ?_⟩
    · simp only [tst_ap, eBin_ap, eVar_s, eVar_z, eC_ap, R.okb, dGt_i, asB_bl, decide_eq_true hr]
    · simp only [eBin_ap, eCall_ap, eCons_ap, eNil_ap, eVar_s, eVar_z, eC_ap, R.okb, dInt_i]
      rw [dMod_i (by decide)]
      simp only [R.okb, e1]
      have h1 := hw.2.1
      exact dAdd_s (by show 1 + w.length ≤ _; omega)
    · simp only [List.set_cons_succ, List.set_cons_zero, eBin_ap, eVar_s, eVar_z, eC_ap, R.okb]
      exact dFdiv_i (by decide) (by decide)
    · refine ⟨rest / 26, ⟨#[c]⟩ ++ w, .fz (.int (k : Nat)), ?_, ?_⟩
      · simp only [List.set_cons_succ, List.set_cons_zero]
      · rw [show k + 1 + 1 = 1 + (k + 1) by omega]; exact hn
  · refine ⟨_, if_f ?_ rfl, rest, w, .fz (.int (k : Nat)), rfl, hw.1, Nat.le_succ_of_le hw.2.1, hw.2.2⟩
    simp only [tst_ap, eBin_ap, eVar_s, eVar_z, eC_ap, R.okb, dGt_i, asB_bl, decide_eq_false hr]
theorem law_name (nu sa : Int) : ∃ w, m__law_name [.int nu, .int sa] = .ok (.str w) ∧ nmT w = true := by
  unfold m__law_name
  rw [runD2]
  unfold b__law_name
  obtain ⟨c, e1, e2⟩ := let_ix (sa * 64 + nu)
  obtain ⟨ρ', f1, r2, w, x, f2, f3⟩ := forRng_inv (tg := tgN 5) (body := b__law_name_0) (n := 11) (fun k ρ => ∃ (rest : Int) (w : Str) (x : Sl), ρ = [.fz (.int nu), .fz (.int sa), .fz (.str LET), .fz (.int rest), .fz (.str w), x] ∧ Nm w (k + 1))
    (fun k hk ρ ⟨rest, w, x, e, hb⟩ => by
      subst e
      exact name_step hk hb)
    [.fz (.int nu), .fz (.int sa), .fz (.str LET), .fz (.int ((sa * 64 + nu) / 26)), .fz (.str ⟨#[c]⟩), .un] ⟨_, _, _, rfl, nm_one e2⟩
  have key : ∃ u, nmT u = true ∧ (sSeq (sIf (tst (eBin dEq (eBin dMod (eCall dInt (eCons (eVar 1) eNil)) (eC (.int 2))) (eC (.int 1)))) (sRet (fun ρ => (eVar 4) ρ >>= dRev)) sNext) (sRet (eVar 4)) ρ' >>= outK) = .ok (.str u) := by
    subst f2
    have h12 := f3.2.1
    by_cases h : (sa % 2 == 1) = true
    · refine ⟨revS w, nm_T (nm_rev f3), seq_rt (if_t ?_ (ret_of ?_))⟩
      · simp only [tst_ap, eBin_ap, eCall_ap, eCons_ap, eNil_ap, eVar_s, eVar_z, eC_ap, R.okb, dInt_i]
        rw [dMod_i (by decide)]
        simp only [R.okb, dEq_i, asB_bl, h]
      · simp only [eVar_s, eVar_z, R.okb]
        exact dRev_s (by omega)
    · refine ⟨w, nm_T f3, seq_go (if_f ?_ rfl) (ret_out rfl)⟩
      simp only [tst_ap, eBin_ap, eCall_ap, eCons_ap, eNil_ap, eVar_s, eVar_z, eC_ap, R.okb, dInt_i]
      rw [dMod_i (by decide)]
      simp only [R.okb, dEq_i, asB_bl]
      cases h' : (sa % 2 == 1) with
      | false => rfl
      | true => exact absurd h' h
  obtain ⟨u, hu, ku⟩ := key
  refine ⟨u, ?_, hu⟩
  simp only [List.replicate]
  refine seq_go (set_of (d := .str LET) rfl) ?_
  simp only [List.set_cons_succ, List.set_cons_zero]
  refine seq_go (set_of (d := .int (sa * 64 + nu)) ?_) ?_
  · simp only [eBin_ap, eVar_s, eVar_z, eC_ap, R.okb]
    rw [dMul_r (by decide)]
    simp only [R.okb, dAdd_i]
  simp only [List.set_cons_succ, List.set_cons_zero]
  refine seq_go (set_of (d := .str ⟨#[c]⟩) ?_) ?_
  · simp only [eBin_ap, eCall_ap, eCons_ap, eNil_ap, eVar_s, eVar_z, eC_ap, R.okb, dInt_i]
    rw [dMod_i (by decide)]
    simp only [R.okb, e1]
  simp only [List.set_cons_succ, List.set_cons_zero]
  refine seq_go (set_of (d := .int ((sa * 64 + nu) / 26)) ?_) ?_
  · simp only [eBin_ap, eVar_s, eVar_z, eC_ap, R.okb]
    exact dFdiv_i (by decide) (by decide)
  simp only [List.set_cons_succ, List.set_cons_zero]
  refine seq_go (ρ' := ρ') ?_ ku
  rw [sFor_rng 11 (i := 11) rfl rfl (by decide)]
  exact f1
/-- a number of the law -/
def Num (d : D) : Prop := ∃ n : Nat, n < 10 ^ 12 ∧ d = .int (n : Nat)
theorem num_mod (i : Int) {m : Int} (hm : 0 < m) (h : m ≤ 10 ^ 12) : Num (.int (i % m)) := by
  have h1 : 0 ≤ i % m := Int.emod_nonneg _ (by omega)
  have h2 : i % m < m := Int.emod_lt_of_pos _ hm
  refine ⟨(i % m).toNat, ?_, by rw [Int.toNat_of_nonneg h1]⟩
  have : ((i % m).toNat : Int) < ((10 ^ 12 : Nat) : Int) := by
    rw [Int.toNat_of_nonneg h1]
    exact Int.lt_of_lt_of_le h2 h
  exact Int.ofNat_lt.mp this
theorem pow3 : dPow (.int 1009) (.int 3) = .ok (.int (1009 ^ 3)) := rfl
theorem pow2 : dPow (.int 1009) (.int 2) = .ok (.int (1009 ^ 2)) := rfl
theorem pow12 : dPow (.int 10) (.int 12) = .ok (.int (10 ^ 12)) := rfl
theorem pow268 : dPow (.int 26) (.int 8) = .ok (.int (26 ^ 8)) := rfl
theorem law_integer (a b c e : Int) : ∃ d, m__law_integer [.lst [.int a, .int b, .int c, .int e]] = .ok d ∧ Num d := by
  unfold m__law_integer
  rw [runD1]
  unfold b__law_integer
  have i0 : dIx (.lst [.int a, .int b, .int c, .int e]) (.int 0) = .ok (.int a) := rfl
  have i1 : dIx (.lst [.int a, .int b, .int c, .int e]) (.int 1) = .ok (.int b) := rfl
  have i2 : dIx (.lst [.int a, .int b, .int c, .int e]) (.int 2) = .ok (.int c) := rfl
  have i3 : dIx (.lst [.int a, .int b, .int c, .int e]) (.int 3) = .ok (.int e) := rfl
  generalize D.lst [.int a, .int b, .int c, .int e] = P at *
  have s1 : sSet 1 (eBin dMod (eCall dInt (eCons (eBin dIx (eVar 0) (eC (.int 0))) eNil)) (eC (.int 6))) (.fz P :: List.replicate 1 .un) = .ok (.nx [.fz P, .fz (.int (a % 6))]) := by
    refine (set_of (d := .int (a % 6)) ?_).trans rfl
    simp only [eBin_ap, eCall_ap, eCons_ap, eNil_ap, eVar_z, eC_ap, R.okb, i0, dInt_i]
    exact dMod_i (by decide)
  by_cases h0 : (a % 6 == 0) = true
  · have hb1 : 0 ≤ b % 6 := Int.emod_nonneg _ (by decide)
    have hb2 : b % 6 < 6 := Int.emod_lt_of_pos _ (by decide)
    obtain ⟨n, hn⟩ : ∃ n : Nat, b % 6 = n := ⟨(b % 6).toNat, by omega⟩
    have hn6 : n < 6 := by omega
    have hl : n < (([0, 999999999999, 10, 99999999999, 100000000000, 9] : List Nat)).length := hn6
    have ht : dIx (.tup [.int 0, .int 999999999999, .int 10, .int 99999999999, .int 100000000000, .int 9]) (.int (n : Nat)) = .ok (.int ((([0, 999999999999, 10, 99999999999, 100000000000, 9] : List Nat)[n] : Nat) : Int)) := by
      refine dIx_t ?_
      have : ([.int 0, .int 999999999999, .int 10, .int 99999999999, .int 100000000000, .int 9] : List D) = ([0, 999999999999, 10, 99999999999, 100000000000, 9] : List Nat).map fun (m : Nat) => D.int (m : Int) := rfl
      rw [this, List.getElem?_map, List.getElem?_eq_getElem hl]; rfl
    refine ⟨_, seq_go s1 (seq_rt (if_t ?_ (ret_of (d := .int ((([0, 999999999999, 10, 99999999999, 100000000000, 9] : List Nat)[n] : Nat) : Int)) ?_))), ([0, 999999999999, 10, 99999999999, 100000000000, 9] : List Nat)[n], ?_, rfl⟩
    · simp only [tst_ap, eBin_ap, eVar_s, eVar_z, eC_ap, R.okb, dEq_i, asB_bl, h0]
    · simp only [eBin_ap, eTup_ap, eCall_ap, eCons_ap, eNil_ap, eVar_s, eVar_z, eC_ap, R.okb, List.length_cons, List.length_nil]
      rw [small_of (by decide)]
      simp only [guardR_t, R.okb, i1, dInt_i]
      rw [dMod_i (by decide), R.okb, hn]
      exact ht
    · have : ∀ m ∈ ([0, 999999999999, 10, 99999999999, 100000000000, 9] : List Nat), m < 10 ^ 12 := by decide
      exact this _ (List.getElem_mem hl)
  · have h0' : (a % 6 == 0) = false := by
      cases h : (a % 6 == 0) with
      | false => rfl
      | true => exact absurd h h0
    have t1 : tst (eBin dEq (eVar 1) (eC (.int 0))) [.fz P, .fz (.int (a % 6))] = .ok false := by
      simp only [tst_ap, eBin_ap, eVar_s, eVar_z, eC_ap, R.okb, dEq_i, asB_bl, h0']
    by_cases h3 : a % 6 < 3
    · refine ⟨_, seq_go s1 (seq_go (if_f t1 rfl) (seq_rt (if_t ?_ (ret_of (d := .int (b % 13)) ?_)))), num_mod b (by decide) (by decide)⟩
      · simp only [tst_ap, eBin_ap, eVar_s, eVar_z, eC_ap, R.okb, dLt_i, asB_bl, decide_eq_true h3]
      · simp only [eBin_ap, eCall_ap, eCons_ap, eNil_ap, eVar_s, eVar_z, eC_ap, R.okb, i1, dInt_i]
        exact dMod_i (by decide)
    · refine ⟨_, seq_go s1 (seq_go (if_f t1 rfl) (seq_go (if_f ?_ rfl) (ret_out (d := .int ((b * 1009 ^ 3 + c * 1009 ^ 2 + e * 1009 + a) % 10 ^ 12)) ?_))), num_mod _ (by decide) (by decide)⟩
      · simp only [tst_ap, eBin_ap, eVar_s, eVar_z, eC_ap, R.okb, dLt_i, asB_bl, decide_eq_false h3]
      · simp only [eBin_ap, eCall_ap, eCons_ap, eNil_ap, eVar_s, eVar_z, eC_ap, R.okb, i0, i1, i2, i3, pow3, pow2, pow12]
        rw [dMul_r (by decide), R.okb, dMul_r (by decide)]
        simp only [R.okb, dAdd_i]
        rw [dMul_r (by decide)]
        simp only [R.okb, dAdd_i, dInt_i]
        exact dMod_i (by decide)
theorem law_word (a b c : Int) : ∃ w, m__law_word [.lst [.int a, .int b, .int c]] = .ok (.str w) ∧ nmT w = true := by
  unfold m__law_word
  rw [runD1]
  unfold b__law_word
  have i0 : dIx (.lst [.int a, .int b, .int c]) (.int 0) = .ok (.int a) := rfl
  have i1 : dIx (.lst [.int a, .int b, .int c]) (.int 1) = .ok (.int b) := rfl
  have i2 : dIx (.lst [.int a, .int b, .int c]) (.int 2) = .ok (.int c) := rfl
  generalize D.lst [.int a, .int b, .int c] = P at *
  have t1 : tst (eBin dEq (eBin dMod (eCall dInt (eCons (eBin dIx (eVar 0) (eC (.int 0))) eNil)) (eC (.int 4))) (eC (.int 0))) (.fz P :: List.replicate 0 .un) = .ok (a % 4 == 0) := by
    simp only [tst_ap, eBin_ap, eCall_ap, eCons_ap, eNil_ap, eVar_z, eC_ap, R.okb, i0, dInt_i]
    rw [dMod_i (by decide), R.okb, dEq_i, R.okb, asB_bl]
  cases h : (a % 4 == 0) with
  | true =>
    rw [h] at t1
    obtain ⟨w, e1, e2⟩ := law_name b ((1 + c) * 26 ^ 8)
    refine ⟨w, seq_rt (if_t t1 (ret_of ?_)), e2⟩
    simp only [eCall_ap, eCons_ap, eBin_ap, eVar_z, eC_ap, eNil_ap, R.okb, i1, i2, dAdd_i, pow268]
    rw [dMul_r (by decide)]
    simp only [R.okb]
    exact e1
  | false =>
    rw [h] at t1
    obtain ⟨w, e1, e2⟩ := law_name b (c % 3 * a)
    refine ⟨w, seq_go (if_f t1 rfl) (ret_out ?_), e2⟩
    have h1 : 0 ≤ c % 3 := Int.emod_nonneg _ (by decide)
    have h2 : c % 3 < 3 := Int.emod_lt_of_pos _ (by decide)
    have hw : within64 (c % 3) = true := by
      have : c % 3 = 0 ∨ c % 3 = 1 ∨ c % 3 = 2 := by omega
      rcases this with h | h | h <;> rw [h] <;> decide
    simp only [eCall_ap, eCons_ap, eBin_ap, eVar_z, eC_ap, eNil_ap, R.okb, i0, i1, i2, dInt_i]
    rw [dMod_i (by decide)]
    simp only [R.okb, dInt_i]
    rw [dMul_l hw]
    simp only [R.okb]
    exact e1
end K32

namespace K32
open PySem PySem.Spec PyProof.Rows L2 DD TL TX

theorem compR_ex {tg : D → En → R En} {elt : En → R D} {ρ : En} (Q : D → Prop) : ∀ {l : List D}, (∀ x ∈ l, ∃ d, (tg x ρ >>= elt) = .ok d ∧ Q d) → ∃ ds, compR tg bYes elt ρ l = .ok ds ∧ ds.length = l.length ∧ ∀ d ∈ ds, Q d
  | [], _ => ⟨[], rfl, rfl, fun d h => by cases h⟩
  | a :: l, h => by
    obtain ⟨d, h1, hq⟩ := h a (List.mem_cons_self ..)
    obtain ⟨ds, e1, e2, e3⟩ := compR_ex Q (l := l) fun b hb => h b (List.mem_cons_of_mem _ hb)
    refine ⟨d :: ds, ?_, congrArg (· + 1) e2, fun x hx => ?_⟩
    · show (tg a ρ >>= fun ρ1 => bYes ρ1 >>= fun b => if b = true then elt ρ1 >>= fun x => compR tg bYes elt ρ l >>= fun xs => .ok (x :: xs) else compR tg bYes elt ρ l) = _
      cases e : tg a ρ with
      | ok ρ1 =>
        rw [e] at h1
        have h2 : elt ρ1 = .ok d := h1
        simp [h2, e1]
      | err x => rw [e] at h1; cases h1
      | bad => rw [e] at h1; cases h1
    · rcases List.mem_cons.mp hx with rfl | hx
      · exact hq
      · exact e3 x hx
theorem eComp_rngE {f : En → R (List D)} {vs : List Nat} {tg : D → En → R En} {elt : En → R D} {ρ : En} {i : Int} (n : Nat) (Q : D → Prop) (h : f ρ = .ok [.int i]) (hi : i = (n : Nat)) (hn : n < 1000000) (ho : noOwn ρ vs = true) (hb : ∀ k, k < n → ∃ d, (tg (.int (k : Nat)) (wipeE ρ vs) >>= elt) = .ok d ∧ Q d) :
    ∃ ds, eComp (fun ρ => f ρ >>= dRng1) vs tg bYes elt ρ = .ok ds ∧ ds.length = n ∧ ∀ d ∈ ds, Q d := by
  obtain ⟨ds, e1, e2, e3⟩ := compR_ex (tg := tg) (elt := elt) (ρ := wipeE ρ vs) Q (l := (List.range' 0 n).map fun (k : Nat) => D.int (0 + (k : Int))) (fun x hx => by
    obtain ⟨k, hk, rfl⟩ := List.mem_map.mp hx
    rw [Int.zero_add]
    exact hb k (by have := List.mem_range'.mp hk; omega))
  rw [List.length_map, List.length_range'] at e2
  refine ⟨ds, ?_, e2, e3⟩
  show ((f ρ >>= dRng1) >>= fun ds => guardR (noOwn ρ vs && decide (ds.length < 16777216)) >>= fun _ => compR tg bYes elt (wipeE ρ vs) ds) = _
  rw [h, hi, R.okb, rng_nat hn, R.okb, ho]
  rw [List.length_map, List.length_range', decide_eq_true (by omega)]
  exact e1
theorem sl4 {ds : List Int} {p q : Nat} (h : p + 4 ≤ ds.length) (hq : q = p + 4) : ∃ a b c e, DD.cutD (ds.map D.int) (some ((p : Nat) : Int)) (some ((q : Nat) : Int)) = [.int a, .int b, .int c, .int e] := by
  subst hq
  have hl : ((ds.drop p).take 4).length = 4 := by rw [List.length_take, List.length_drop]; omega
  rw [cutD_nn, show p + 4 - p = 4 by omega, ← List.map_drop, ← List.map_take]
  cases h1 : (ds.drop p).take 4 with
  | nil => rw [h1] at hl; cases hl
  | cons a r => cases r with
    | nil => rw [h1] at hl; cases hl
    | cons b r => cases r with
      | nil => rw [h1] at hl; cases hl
      | cons c r => cases r with
        | nil => rw [h1] at hl; cases hl
        | cons e r => cases r with
          | nil => exact ⟨a, b, c, e, rfl⟩
          | cons f r => rw [h1] at hl; simp at hl
theorem sl3 {ds : List Int} {p q : Nat} (h : p + 3 ≤ ds.length) (hq : q = p + 3) : ∃ a b c, DD.cutD (ds.map D.int) (some ((p : Nat) : Int)) (some ((q : Nat) : Int)) = [.int a, .int b, .int c] := by
  subst hq
  have hl : ((ds.drop p).take 3).length = 3 := by rw [List.length_take, List.length_drop]; omega
  rw [cutD_nn, show p + 3 - p = 3 by omega, ← List.map_drop, ← List.map_take]
  cases h1 : (ds.drop p).take 3 with
  | nil => rw [h1] at hl; cases hl
  | cons a r => cases r with
    | nil => rw [h1] at hl; cases hl
    | cons b r => cases r with
      | nil => rw [h1] at hl; cases hl
      | cons c r => cases r with
        | nil => exact ⟨a, b, c, rfl⟩
        | cons f r => rw [h1] at hl; simp at hl
def Nam (d : D) : Prop := ∃ w, nmT w = true ∧ d = .str w
def Lab (d : D) : Prop := ∃ a b, nmT a = true ∧ nmT b = true ∧ d = .tup [.str a, .str b]
/-- a slice of the draws, from c + m*k, of n -/
theorem at_lin {ρ : En} {j : Nat} {k : Nat} {m c : Int} {mn cn : Nat} (hk : eVar j ρ = .ok (.int (k : Nat))) (hm : m = (mn : Nat)) (hc : c = (cn : Nat)) (h64 : within64 m = true) :
    eBin dAdd (eC (.int c)) (eBin dMul (eC (.int m)) (eVar j)) ρ = .ok (.int ((cn + mn * k : Nat) : Int)) := by
  simp only [eBin_ap, eC_ap, R.okb, hk]
  rw [dMul_l h64, R.okb, dAdd_i, hm, hc]
  congr 2
theorem at_lin0 {ρ : En} {j : Nat} {k : Nat} {m : Int} {mn : Nat} (hk : eVar j ρ = .ok (.int (k : Nat))) (hm : m = (mn : Nat)) (h64 : within64 m = true) :
    eBin dMul (eC (.int m)) (eVar j) ρ = .ok (.int ((mn * k : Nat) : Int)) := by
  simp only [eBin_ap, eC_ap, R.okb, hk]
  rw [dMul_l h64, hm]
  rfl
theorem at_linr {ρ : En} {j : Nat} {k : Nat} {m c : Int} {mn cn : Nat} (hk : eVar j ρ = .ok (.int (k : Nat))) (hm : m = (mn : Nat)) (hc : c = (cn : Nat)) (h64 : within64 m = true) :
    eBin dAdd (eBin dMul (eC (.int m)) (eVar j)) (eC (.int c)) ρ = .ok (.int ((mn * k + cn : Nat) : Int)) := by
  rw [eBin_ap, at_lin0 hk hm h64, R.okb, eC_ap, R.okb, dAdd_i, hc]
  congr 2
theorem sl_of {ρ : En} {i : Nat} {xs : List D} {fa fb : En → R D} {a b : Nat} (hx : eVar i ρ = .ok (.lst xs)) (ha : fa ρ = .ok (.int (a : Nat))) (hb : fb ρ = .ok (.int (b : Nat))) :
    eSl (eVar i) (oSome fa) (oSome fb) ρ = .ok (.lst (DD.cutD xs (some ((a : Nat) : Int)) (some ((b : Nat) : Int)))) := by
  simp only [eSl_ap, hx, R.okb, oSome_ap, ha, hb, asI_i, dSl_l]
theorem call1 {ρ : En} {g : List D → R D} {f : En → R D} {x : D} (h : f ρ = .ok x) : eCall g (eCons f eNil) ρ = g [x] := by
  simp only [eCall_ap, eCons_ap, h, R.okb, eNil_ap]
def Kp (d : D) : Prop := ∃ cs ls : List D, d = .tup [.tup cs, .tup ls] ∧ cs ≠ [] ∧ cs.length ≤ 6 ∧ ls.length ≤ 12 ∧ (∀ c ∈ cs, Num c) ∧ ∀ l ∈ ls, Lab l
theorem mod_nat (i : Int) {m : Int} (hm : 0 < m) : ∃ n : Nat, i % m = (n : Nat) ∧ (n : Int) < m := ⟨(i % m).toNat, by have := Int.emod_nonneg i (by omega : m ≠ 0); omega, by have := Int.emod_nonneg i (by omega : m ≠ 0); have := Int.emod_lt_of_pos i hm; omega⟩
theorem law_kept {ds : List Int} (h : 102 ≤ ds.length) : ∃ d, m__law_kept [.lst (ds.map D.int)] = .ok d ∧ Kp d := by
  unfold m__law_kept
  rw [runD1]
  unfold b__law_kept
  have i0 : dIx (.lst (ds.map D.int)) (.int 0) = .ok (.int (ds[0]'(by omega))) := dIx_l (n := 0) (by rw [List.getElem?_map, List.getElem?_eq_getElem (by omega)]; rfl)
  have i1 : dIx (.lst (ds.map D.int)) (.int 1) = .ok (.int (ds[1]'(by omega))) := dIx_l (n := 1) (by rw [List.getElem?_map, List.getElem?_eq_getElem (by omega)]; rfl)
  generalize ds[0]'(by omega) = d0 at i0
  generalize ds[1]'(by omega) = d1 at i1
  obtain ⟨n, hn, hn6⟩ := mod_nat d0 (m := 6) (by decide)
  obtain ⟨m, hm, hm13⟩ := mod_nat d1 (m := 13) (by decide)
  generalize hG : eComp _ _ _ _ _ = G
  obtain ⟨cs, c1, c2, c3⟩ : ∃ cs, G (.fz (.lst (ds.map D.int)) :: List.replicate 3 .un) = .ok cs ∧ cs.length = n + 1 ∧ ∀ c ∈ cs, Num c := by
    rw [← hG]
    refine eComp_rngE (n + 1) Num (i := 1 + d0 % 6) ?_ (by rw [hn]; omega) (by omega) rfl fun k hk => ?_
    · simp only [eCons_ap, eBin_ap, eC_ap, eCall_ap, eVar_z, eNil_ap, R.okb, i0, dInt_i]
      rw [dMod_i (by decide)]
      simp only [R.okb, dAdd_i]
    · rw [tgN_ap, R.okb]
      obtain ⟨a, b, c, e, e4⟩ := sl4 (ds := ds) (p := 4 * k) (q := 4 * k + 4) (by omega) rfl
      obtain ⟨d, e5, e6⟩ := law_integer a b c e
      refine ⟨d, ?_, e6⟩
      rw [call1 (sl_of rfl (at_lin0 (k := k) (m := 4) (mn := 4) rfl rfl (by decide)) (at_linr (k := k) (m := 4) (c := 4) (mn := 4) (cn := 4) rfl rfl rfl (by decide))), e4]
      exact e5
  clear hG
  obtain ⟨ρ', f1, ls, x, f2, f3, f4⟩ := forRng_inv (tg := tgN 3) (body := b__law_kept_0) (n := m) (fun k ρ => ∃ (ls : List D) (x : Sl), ρ = [.fz (.lst (ds.map D.int)), .fz (.tup cs), .ow ls, x] ∧ ls.length = k ∧ ∀ l ∈ ls, Lab l)
    (fun k hk ρ ⟨ls, x, e, hl, hb⟩ => by
      subst e
      obtain ⟨a, b, c, e3⟩ := sl3 (ds := ds) (p := 24 + 6 * k) (q := 27 + 6 * k) (by omega) (by omega)
      obtain ⟨a', b', c', e3'⟩ := sl3 (ds := ds) (p := 27 + 6 * k) (q := 30 + 6 * k) (by omega) (by omega)
      obtain ⟨u, u1, u2⟩ := law_word a b c
      obtain ⟨v, v1, v2⟩ := law_word a' b' c'
      rw [tgN_ap, R.okb]
      unfold b__law_kept_0
      refine ⟨_, app_of (ds := ls) (d := .tup [.str u, .str v]) rfl ?_ (by omega), ls ++ [.tup [.str u, .str v]], .fz (.int (k : Nat)), rfl, by rw [List.length_append, hl]; rfl, fun l hl => ?_⟩
      · rw [eTup_ap, eCons_ap, call1 (sl_of rfl (at_lin (k := k) (m := 6) (c := 24) (mn := 6) (cn := 24) rfl rfl rfl (by decide)) (at_lin (k := k) (m := 6) (c := 27) (mn := 6) (cn := 27) rfl rfl rfl (by decide))), e3, u1]
        simp only [R.okb]
        rw [eCons_ap, call1 (sl_of rfl (at_lin (k := k) (m := 6) (c := 27) (mn := 6) (cn := 27) rfl rfl rfl (by decide)) (at_lin (k := k) (m := 6) (c := 30) (mn := 6) (cn := 30) rfl rfl rfl (by decide))), e3', v1]
        simp only [R.okb, eNil_ap, List.length_cons, List.length_nil]
        rw [small_of (by decide)]; rfl
      · rcases List.mem_append.mp hl with hl | hl
        · exact hb l hl
        · exact ⟨u, v, u2, v2, List.mem_singleton.mp hl⟩)
    [.fz (.lst (ds.map D.int)), .fz (.tup cs), .ow [], .un] ⟨[], .un, rfl, rfl, fun l h => by cases h⟩
  refine ⟨.tup [.tup cs, .tup ls], ?_, cs, ls, rfl, (fun e => by rw [e] at c2; cases c2), by omega, by omega, c3, f4⟩
  refine seq_go (set_of (d := .tup cs) ?_) ?_
  · rw [eCall_ap, c1]; rfl
  refine seq_go (ρ' := [.fz (.lst (ds.map D.int)), .fz (.tup cs), .ow [], .un]) (setO_of (ds := []) ?_) ?_
  · rw [eLst_ap, eNil_ap, R.okb]; rfl
  refine seq_go (ρ' := ρ') ?_ ?_
  · rw [sFor_rng m (i := d1 % 13) (by
      simp only [eCons_ap, eBin_ap, eC_ap, eCall_ap, eVar_z, eNil_ap, R.okb, i1, dInt_i]
      rw [dMod_i (by decide)]
      simp only [R.okb]) hm (by omega)]
    exact f1
  · subst f2
    refine ret_out ?_
    simp only [eTup_ap, eCons_ap, eVar_s, eVar_z, eCall_ap, eOwn_s, eOwn_z, R.okb, dTupL_ap, eNil_ap, List.length_cons, List.length_nil]
    rw [small_of (by decide)]; rfl

/-! ### what the law draws is what is written -/
theorem list_words {Q : D → Prop} {f : Str → D} {S : Str → Prop} (h : ∀ d, Q d → ∃ w, S w ∧ d = f w) : ∀ {cs : List D}, (∀ d ∈ cs, Q d) → ∃ ws : List Str, cs = ws.map f ∧ ∀ w ∈ ws, S w
  | [], _ => ⟨[], rfl, fun w hw => by cases hw⟩
  | c :: cs, hq => by
    obtain ⟨w, hw, e⟩ := h c (hq c (List.mem_cons_self ..))
    obtain ⟨ws, e1, e2⟩ := list_words (Q := Q) (f := f) (S := S) h (cs := cs) fun d hd => hq d (List.mem_cons_of_mem _ hd)
    refine ⟨w :: ws, by rw [e, e1]; rfl, fun x hx => ?_⟩
    rcases List.mem_cons.mp hx with rfl | hx
    · exact hw
    · exact e2 x hx
theorem num_word {d : D} (h : Num d) : ∃ w, numT w = true ∧ d = .int (val w) := by
  obtain ⟨n, h1, h2⟩ := h
  obtain ⟨a, b⟩ := num_mk h1
  exact ⟨_, a, by rw [h2, b]⟩
theorem numT_free {w : Str} (h : numT w = true) {c : Nat} (hc : c < 48) : c ∉ TL.tl w ∧ w.length ≤ 12 := by
  unfold numT at h
  rw [Bool.and_eq_true, Bool.and_eq_true] at h
  refine ⟨fun hm => ?_, (len12_iff.mp h.1.1).2⟩
  have := all_fig h.1.2 c hm
  omega
theorem nmT_free {w : Str} (h : nmT w = true) {c : Nat} (hc : c < 97) : c ∉ TL.tl w ∧ w.length ≤ 12 := by
  unfold nmT at h
  rw [Bool.and_eq_true] at h
  refine ⟨fun hm => ?_, (len12_iff.mp h.1).2⟩
  have h2 := List.all_eq_true.mp h.2 c hm
  have := (let_iff c).mp (of_decide_eq_true h2)
  omega
theorem lab_word {d : D} (h : Lab d) : ∃ w, (labT w = true ∧ 32 ∉ TL.tl w ∧ w.length ≤ 25) ∧ d = labD w := by
  obtain ⟨a, b, ha, hb, e⟩ := h
  have hs : Txt.split (a ++ "." ++ b) "." = [a, b] := by
    have := split_join1 sep_do (l := [a, b]) (by simp) (fun p hp => by
      rcases List.mem_cons.mp hp with rfl | hp
      · exact (nmT_free ha (by decide)).1
      · rw [List.mem_singleton.mp hp]; exact (nmT_free hb (by decide)).1)
    rw [join_cons, TX.join_one] at this
    exact this
  refine ⟨a ++ "." ++ b, ⟨?_, ?_, ?_⟩, ?_⟩
  · unfold labT
    rw [hs]
    show (nmT a && nmT b) = true
    rw [ha, hb]; rfl
  · rw [tl_append, tl_append, List.mem_append, List.mem_append, not_or, not_or]
    exact ⟨⟨(nmT_free ha (by decide)).1, by decide⟩, (nmT_free hb (by decide)).1⟩
  · have h1 := (nmT_free ha (c := 0) (by decide)).2
    have h2 := (nmT_free hb (c := 0) (by decide)).2
    have d1 : ("." : Str).length = 1 := by decide
    rw [app_len, app_len, d1]; omega
  · unfold labD
    rw [hs, e]; rfl
theorem joinL_free {s c : Nat} (hc : c ≠ s) : ∀ {l : List (List Nat)}, (∀ p ∈ l, c ∉ p) → c ∉ joinL [s] l
  | [], _ => by simp [joinL]
  | [p], h => h p (by simp)
  | p :: q :: r, h => by
    rw [joinL_cons (by simp), List.mem_append, List.mem_append, not_or, not_or]
    exact ⟨h p (by simp), by simpa using hc, joinL_free hc fun x hx => h x (List.mem_cons_of_mem _ hx)⟩
theorem join_free {y : Str} {s c : Nat} (hy : Sep1 y s) (hc : c ≠ s) {l : List Str} (h : ∀ p ∈ l, c ∉ TL.tl p) : c ∉ TL.tl (Txt.join y l) := by
  rw [join_eq, tl_join, hy.tl_]
  refine joinL_free hc fun p hp => ?_
  obtain ⟨x, hx, rfl⟩ := List.mem_map.mp hp
  exact h x hx
theorem sum_le {n : Nat} : ∀ {l : List Str}, (∀ w ∈ l, w.length ≤ n) → (l.map (·.length)).sum ≤ n * l.length
  | [], _ => Nat.le_refl _
  | a :: l, h => by
    have h1 := h a (List.mem_cons_self ..)
    have h2 := sum_le (n := n) (l := l) fun w hw => h w (List.mem_cons_of_mem _ hw)
    rw [List.map_cons, List.sum_cons, List.length_cons, Nat.mul_succ]
    omega
/-- parts that can be written -/
def Ln (p : D) : Prop := ∃ ws, rd ws = p ∧ p ≠ .non ∧ ws ≠ [] ∧ (∀ w ∈ ws, 32 ∉ TL.tl w) ∧ (ws.map (·.length)).sum + ws.length ≤ 500
theorem kept_ln {n0 : D} {cs ls : List D} (hn : Num n0) (hc : cs ≠ []) (c6 : cs.length ≤ 6) (l12 : ls.length ≤ 12) (hcs : ∀ c ∈ cs, Num c) (hls : ∀ l ∈ ls, Lab l) : Ln (.tup [.str "kept", n0, .tup cs, .tup ls]) := by
  obtain ⟨w1, a1, a2⟩ := num_word hn
  obtain ⟨ws, b1, b2⟩ := list_words (fun d => num_word) hcs
  obtain ⟨us, d1, d2⟩ := list_words (fun d => lab_word) hls
  have hws : ws ≠ [] := fun e => hc (by rw [b1, e]; rfl)
  have hsp : Txt.split (Txt.join "," ws) "," = ws := split_join1 sep_co hws fun p hp => (numT_free (b2 p hp) (by decide)).1
  have hl2 := join_len sep_co hws
  have hsum := sum_le (n := 12) (l := ws) fun w hw => (numT_free (c := 0) (b2 w hw) (by decide)).2
  have hsum2 := sum_le (n := 25) (l := us) fun w hw => (d2 w hw).2.2
  rw [b1, List.length_map] at c6
  rw [d1, List.length_map] at l12
  have k4 : ("kept" : Str).length = 4 := by decide
  have hw1 := (numT_free (c := 0) a1 (by decide)).2
  refine ⟨"kept" :: w1 :: Txt.join "," ws :: us, ?_, by simp, by simp, ?_, ?_⟩
  · rw [rd_cons, if_pos rfl, rdKept_cons, hsp]
    rw [if_pos]
    · rw [a2, b1, d1]
    · rw [a1, List.all_eq_true.mpr b2, List.all_eq_true.mpr fun w hw => (d2 w hw).1]; rfl
  · intro w hw
    rcases List.mem_cons.mp hw with rfl | hw
    · decide
    rcases List.mem_cons.mp hw with rfl | hw
    · exact (numT_free a1 (by decide)).1
    rcases List.mem_cons.mp hw with rfl | hw
    · exact join_free sep_co (by decide) fun p hp => (numT_free (b2 p hp) (by decide)).1
    · exact (d2 w hw).2.1
  · simp only [List.map_cons, List.sum_cons, List.length_cons, k4]
    omega
def PlR (fs : List Nat) (ds : List D) : Prop := ∃ rest, rdPlain fs rest = some ds ∧ ∀ w ∈ rest, 32 ∉ TL.tl w ∧ w.length ≤ 12
theorem plr_nil : PlR [] [] := ⟨[], rfl, fun w h => by cases h⟩
theorem plr_n {d : D} {fs : List Nat} {ds : List D} (h : Num d) (r : PlR fs ds) : PlR (110 :: fs) (d :: ds) := by
  obtain ⟨w, h1, h2⟩ := num_word h
  obtain ⟨rest, e1, e2⟩ := r
  refine ⟨w :: rest, ?_, fun x hx => ?_⟩
  · show (if (110 : Nat) = 110 then (if numT w = true then (rdPlain fs rest).map (D.int (val w) :: ·) else none) else _) = _
    rw [if_pos rfl, if_pos h1, e1, h2]; rfl
  · rcases List.mem_cons.mp hx with rfl | hx
    · exact numT_free h1 (by decide)
    · exact e2 x hx
theorem plr_w {d : D} {fs : List Nat} {ds : List D} (h : Nam d) (r : PlR fs ds) : PlR (119 :: fs) (d :: ds) := by
  obtain ⟨w, h1, h2⟩ := h
  obtain ⟨rest, e1, e2⟩ := r
  refine ⟨w :: rest, ?_, fun x hx => ?_⟩
  · show (if (119 : Nat) = 110 then _ else if nmT w = true then (rdPlain fs rest).map (D.str w :: ·) else none) = _
    rw [if_neg (by decide), if_pos h1, e1, h2]; rfl
  · rcases List.mem_cons.mp hx with rfl | hx
    · exact nmT_free h1 (by decide)
    · exact e2 x hx
theorem plain_ln {kw : Str} {fs : List Nat} {ds : List D} (hf : fms.lookup kw = some fs) (hk : kw ≠ "kept") (h32 : 32 ∉ TL.tl kw) (hl : kw.length ≤ 12) (r : PlR fs ds) : Ln (.tup (.str kw :: ds)) := by
  obtain ⟨rest, e1, e2⟩ := r
  have h1 := (fms_ok hf).1
  have h2 := (rdPlain_len e1).1
  have hs := sum_le (n := 12) (l := rest) fun w hw => (e2 w hw).2
  refine ⟨kw :: rest, ?_, by simp, by simp, ?_, ?_⟩
  · rw [rd_cons, if_neg hk, hf]
    show (match rdPlain fs rest with | some ds => D.tup (.str kw :: ds) | none => .non) = _
    rw [e1]
  · intro w hw
    rcases List.mem_cons.mp hw with rfl | hw
    · exact h32
    · exact (e2 w hw).1
  · simp only [List.map_cons, List.sum_cons, List.length_cons]
    omega
end K32

namespace K32
open PySem PySem.Spec PyProof.Rows L2 DD TL TX

theorem len4 {l : List D} (h : l.length = 4) : ∃ a b c d, l = [a, b, c, d] := by
  cases l with
  | nil => cases h
  | cons a r => cases r with
    | nil => cases h
    | cons b r => cases r with
      | nil => cases h
      | cons c r => cases r with
        | nil => cases h
        | cons d r => cases r with
          | nil => exact ⟨a, b, c, d, rfl⟩
          | cons e r => simp at h
theorem len2 {l : List D} (h : l.length = 2) : ∃ a b, l = [a, b] := by
  cases l with
  | nil => cases h
  | cons a r => cases r with
    | nil => cases h
    | cons b r => cases r with
      | nil => exact ⟨a, b, rfl⟩
      | cons e r => simp at h
theorem eq_of {ρ : En} {i : Nat} {a b : Int} (h : eVar i ρ = .ok (.int a)) : tst (eBin dEq (eVar i) (eC (.int b))) ρ = .ok (a == b) := by
  simp only [tst_ap, eBin_ap, h, R.okb, eC_ap, dEq_i, asB_bl]
theorem eqb {ρ : En} {i : Nat} {a b : Int} {c : Bool} (h : eVar i ρ = .ok (.int a)) (hb : (a == b) = c) : tst (eBin dEq (eVar i) (eC (.int b))) ρ = .ok c := by rw [eq_of h, hb]
theorem ixv {ρ : En} {i : Nat} {ds : List D} {n : Nat} {m : Int} {x : D} (h : eVar i ρ = .ok (.lst ds)) (hm : m = (n : Nat)) (hx : ds[n]? = some x) : eBin dIx (eVar i) (eC (.int m)) ρ = .ok x := by
  rw [eBin_ap, h, R.okb, eC_ap, R.okb, hm]
  exact dIx_l hx
theorem ixt {ρ : En} {i : Nat} {ds : List D} {n : Nat} {m : Int} {x : D} (h : eVar i ρ = .ok (.tup ds)) (hm : m = (n : Nat)) (hx : ds[n]? = some x) : eBin dIx (eVar i) (eC (.int m)) ρ = .ok x := by
  rw [eBin_ap, h, R.okb, eC_ap, R.okb, hm]
  exact dIx_t hx
theorem cons_of {ρ : En} {a : En → R D} {r : En → R (List D)} {x : D} {xs : List D} (h : a ρ = .ok x) (g : r ρ = .ok xs) : eCons a r ρ = .ok (x :: xs) := by
  rw [eCons_ap, h, R.okb, g, R.okb]
theorem tup_of {ρ : En} {r : En → R (List D)} {xs : List D} (g : r ρ = .ok xs) (h : xs.length ≤ 16777216) : eTup r ρ = .ok (.tup xs) := by
  rw [eTup_ap, g, R.okb, small_of h, guardR_t, R.okb]
theorem toLst_of {f : En → R (List D)} {ρ : En} {ds : List D} (h : f ρ = .ok ds) : toLst f ρ = .ok (.lst ds) := by
  rw [toLst_ap, h]; rfl
theorem law_parts {ds : List Int} {k : Nat} (h : 130 ≤ ds.length) (hk : k < 5) : ∃ p, m__law_parts [.int (k : Nat), .lst (ds.map D.int)] = .ok p ∧ Ln p := by
  unfold m__law_parts
  rw [runD2]
  unfold b__law_parts
  generalize hG1 : eComp _ _ _ _ (eCall m__law_integer _) = G1
  generalize hG2 : eComp _ _ _ _ (eCall m__law_word _) = G2
  obtain ⟨ns, n1, n2, n3⟩ : ∃ cs, G1 (.fz (.int (k : Nat)) :: .fz (.lst (ds.map D.int)) :: List.replicate 4 .un) = .ok cs ∧ cs.length = 4 ∧ ∀ c ∈ cs, Num c := by
    rw [← hG1]
    refine eComp_rngE 4 Num (i := 4) rfl rfl (by omega) rfl fun k hk => ?_
    rw [tgN_ap, R.okb]
    obtain ⟨a, b, c, e, e4⟩ := sl4 (ds := ds) (p := 4 * k) (q := 4 * k + 4) (by omega) rfl
    obtain ⟨d, e5, e6⟩ := law_integer a b c e
    refine ⟨d, ?_, e6⟩
    rw [call1 (sl_of rfl (at_lin0 (k := k) (m := 4) (mn := 4) rfl rfl (by decide)) (at_linr (k := k) (m := 4) (c := 4) (mn := 4) (cn := 4) rfl rfl rfl (by decide))), e4]
    exact e5
  clear hG1
  obtain ⟨a0, a1, a2, a3, rfl⟩ := len4 n2
  obtain ⟨us, u1, u2, u3⟩ : ∃ cs, G2 [.fz (.int (k : Nat)), .fz (.lst (ds.map D.int)), .fz (.lst [a0, a1, a2, a3]), .un, .un, .un] = .ok cs ∧ cs.length = 2 ∧ ∀ c ∈ cs, Nam c := by
    rw [← hG2]
    refine eComp_rngE 2 Nam (i := 2) rfl rfl (by omega) rfl fun k hk => ?_
    rw [tgN_ap, R.okb]
    obtain ⟨a, b, c, e4⟩ := sl3 (ds := ds) (p := 16 + 3 * k) (q := 19 + 3 * k) (by omega) (by omega)
    obtain ⟨w, e5, e6⟩ := law_word a b c
    refine ⟨.str w, ?_, w, e6, rfl⟩
    rw [call1 (sl_of rfl (at_lin (k := k) (m := 3) (c := 16) (mn := 3) (cn := 16) rfl rfl rfl (by decide)) (at_lin (k := k) (m := 3) (c := 19) (mn := 3) (cn := 19) rfl rfl rfl (by decide))), e4]
    exact e5
  clear hG2
  obtain ⟨b0, b1, rfl⟩ := len2 u2
  have N0 := n3 a0 (by simp)
  have N1 := n3 a1 (by simp)
  have N2 := n3 a2 (by simp)
  have N3 := n3 a3 (by simp)
  have M0 := u3 b0 (by simp)
  have M1 := u3 b1 (by simp)
  obtain ⟨kp, k1, cs, ls, k2, k3, k4, k5, k6, k7⟩ := law_kept (ds := ds) (by omega)
  subst k2
  suffices hs : ∃ p, Ln p ∧ (sSeq (sIf (tst (eBin dEq (eVar 0) (eC (.int 0)))) (sRet (eTup (eCons (eC (.str "start")) (eCons (eBin dIx (eVar 2) (eC (.int 0))) eNil)))) sNext)
    (sSeq (sIf (tst (eBin dEq (eVar 0) (eC (.int 1)))) (sRet (eTup (eCons (eC (.str "take")) (eCons (eBin dIx (eVar 2) (eC (.int 0))) (eCons (eBin dIx (eVar 3) (eC (.int 0))) (eCons (eBin dIx (eVar 2) (eC (.int 1))) (eCons (eBin dIx (eVar 2) (eC (.int 2))) (eCons (eBin dIx (eVar 3) (eC (.int 1))) (eCons (eBin dIx (eVar 2) (eC (.int 3))) eNil))))))))) sNext)
    (sSeq (sIf (tst (eBin dEq (eVar 0) (eC (.int 2)))) (sRet (eTup (eCons (eC (.str "done")) (eCons (eBin dIx (eVar 2) (eC (.int 0))) (eCons (eBin dIx (eVar 3) (eC (.int 0))) (eCons (eBin dIx (eVar 2) (eC (.int 1))) (eCons (eBin dIx (eVar 2) (eC (.int 2))) (eCons (eBin dIx (eVar 3) (eC (.int 1))) eNil)))))))) sNext)
    (sSeq (sIf (tst (eBin dEq (eVar 0) (eC (.int 3)))) (sRet (eTup (eCons (eC (.str "undone")) (eCons (eBin dIx (eVar 2) (eC (.int 0))) (eCons (eBin dIx (eVar 3) (eC (.int 0))) eNil))))) sNext)
    (sSeq (sSet 4 (eCall m__law_kept (eCons (eVar 1) eNil)))
    (sRet (eTup (eCons (eC (.str "kept")) (eCons (eBin dIx (eVar 2) (eC (.int 3))) (eCons (eBin dIx (eVar 4) (eC (.int 0))) (eCons (eBin dIx (eVar 4) (eC (.int 1))) eNil)))))))))) [.fz (.int (k : Nat)), .fz (.lst (ds.map D.int)), .fz (.lst [a0, a1, a2, a3]), .fz (.lst [b0, b1]), .un, .un] >>= outK) = .ok p by
    obtain ⟨p, hp1, hp2⟩ := hs
    refine ⟨p, ?_, hp1⟩
    refine seq_go (set_of (d := .lst [a0, a1, a2, a3]) ?_) ?_
    · rw [toLst_ap, n1]; rfl
    refine seq_go (set_of (d := .lst [b0, b1]) ?_) hp2
    exact toLst_of u1
  have hkk : k = 0 ∨ k = 1 ∨ k = 2 ∨ k = 3 ∨ k = 4 := by omega
  have x20 : ∀ {x y z w : Sl}, eBin dIx (eVar 2) (eC (.int 0)) [x, y, .fz (.lst [a0, a1, a2, a3]), .fz (.lst [b0, b1]), z, w] = .ok a0 := fun {_ _ _ _} => ixv (n := 0) rfl rfl rfl
  have x21 : ∀ {x y z w : Sl}, eBin dIx (eVar 2) (eC (.int 1)) [x, y, .fz (.lst [a0, a1, a2, a3]), .fz (.lst [b0, b1]), z, w] = .ok a1 := fun {_ _ _ _} => ixv (n := 1) rfl rfl rfl
  have x22 : ∀ {x y z w : Sl}, eBin dIx (eVar 2) (eC (.int 2)) [x, y, .fz (.lst [a0, a1, a2, a3]), .fz (.lst [b0, b1]), z, w] = .ok a2 := fun {_ _ _ _} => ixv (n := 2) rfl rfl rfl
  have x23 : ∀ {x y z w : Sl}, eBin dIx (eVar 2) (eC (.int 3)) [x, y, .fz (.lst [a0, a1, a2, a3]), .fz (.lst [b0, b1]), z, w] = .ok a3 := fun {_ _ _ _} => ixv (n := 3) rfl rfl rfl
  have x30 : ∀ {x y z w : Sl}, eBin dIx (eVar 3) (eC (.int 0)) [x, y, .fz (.lst [a0, a1, a2, a3]), .fz (.lst [b0, b1]), z, w] = .ok b0 := fun {_ _ _ _} => ixv (n := 0) rfl rfl rfl
  have x31 : ∀ {x y z w : Sl}, eBin dIx (eVar 3) (eC (.int 1)) [x, y, .fz (.lst [a0, a1, a2, a3]), .fz (.lst [b0, b1]), z, w] = .ok b1 := fun {_ _ _ _} => ixv (n := 1) rfl rfl rfl
  rcases hkk with rfl | rfl | rfl | rfl | rfl
  · exact ⟨_, plain_ln (kw := "start") rfl (by decide) (by decide) (by decide) (plr_n N0 plr_nil), seq_rt (if_t (eqb rfl (by decide)) (ret_of (tup_of (cons_of rfl (cons_of x20 rfl)) (by simp))))⟩
  · exact ⟨_, plain_ln (kw := "take") rfl (by decide) (by decide) (by decide) (plr_n N0 (plr_w M0 (plr_n N1 (plr_n N2 (plr_w M1 (plr_n N3 plr_nil)))))), seq_go (if_f (eqb rfl (by decide)) rfl) (seq_rt (if_t (eqb rfl (by decide)) (ret_of (tup_of (cons_of rfl (cons_of x20 (cons_of x30 (cons_of x21 (cons_of x22 (cons_of x31 (cons_of x23 rfl))))))) (by simp)))))⟩
  · exact ⟨_, plain_ln (kw := "done") rfl (by decide) (by decide) (by decide) (plr_n N0 (plr_w M0 (plr_n N1 (plr_n N2 (plr_w M1 plr_nil))))), seq_go (if_f (eqb rfl (by decide)) rfl) (seq_go (if_f (eqb rfl (by decide)) rfl) (seq_rt (if_t (eqb rfl (by decide)) (ret_of (tup_of (cons_of rfl (cons_of x20 (cons_of x30 (cons_of x21 (cons_of x22 (cons_of x31 rfl)))))) (by simp))))))⟩
  · exact ⟨_, plain_ln (kw := "undone") rfl (by decide) (by decide) (by decide) (plr_n N0 (plr_w M0 plr_nil)), seq_go (if_f (eqb rfl (by decide)) rfl) (seq_go (if_f (eqb rfl (by decide)) rfl) (seq_go (if_f (eqb rfl (by decide)) rfl) (seq_rt (if_t (eqb rfl (by decide)) (ret_of (tup_of (cons_of rfl (cons_of x20 (cons_of x30 rfl))) (by simp)))))))⟩
  · refine ⟨_, kept_ln N3 k3 k4 k5 k6 k7, seq_go (if_f (eqb rfl (by decide)) rfl) (seq_go (if_f (eqb rfl (by decide)) rfl) (seq_go (if_f (eqb rfl (by decide)) rfl) (seq_go (if_f (eqb rfl (by decide)) rfl) (seq_go (set_of (d := .tup [.tup cs, .tup ls]) ?_) (ret_out (tup_of (cons_of rfl (cons_of x23 (cons_of (ixt (n := 0) rfl rfl rfl) (cons_of (ixt (n := 1) rfl rfl rfl) rfl)))) (by simp)))))))⟩
    rw [call1 (x := .lst (ds.map D.int)) rfl]
    exact k1
end K32

namespace K32
open PySem PySem.Spec PyProof.Rows L2 DD TL TX

/-! ### a line, changed -/
abbrev SIGNS : Str := " !\"#$&'()*+,-./0123456789:;<=>?@ABCDEFGHIJKLMNOPQRSTUVWXYZ[\\]^_`abcdefghijklmnopqrstuvwxyz{|}~"
theorem str_ix {z : Str} (hz : z.length ≤ 16777216) {i : Int} (h0 : 0 ≤ i) (h1 : i < (z.length : Int)) : ∃ c, dIx (.str z) (.int i) = .ok (.str ⟨#[c]⟩) := by
  have hlt : i.toNat < (TL.tl z).length := by rw [← len_tl]; omega
  have := dIx_s (z := z) (n := i.toNat) hz (List.getElem?_eq_getElem hlt)
  rw [show ((i.toNat : Nat) : Int) = i by omega] at this
  exact ⟨_, this⟩
theorem str_mod {z : Str} (hz : z.length ≤ 16777216) (hp : 0 < z.length) (r : Int) : ∃ c, dIx (.str z) (.int (r % (z.length : Int))) = .ok (.str ⟨#[c]⟩) :=
  str_ix hz (Int.emod_nonneg _ (by omega)) (Int.emod_lt_of_pos _ (by omega))
/-- a text, not too long -/
def Tx (n : Nat) (f : En → R D) (ρ : En) : Prop := ∃ s : Str, f ρ = .ok (.str s) ∧ s.length ≤ n
theorem tx_add {a b : Nat} {f g : En → R D} {ρ : En} (h : Tx a f ρ) (h' : Tx b g ρ) (hab : a + b ≤ 100000) : Tx (a + b) (eBin dAdd f g) ρ := by
  obtain ⟨s, e1, l1⟩ := h
  obtain ⟨t, e2, l2⟩ := h'
  refine ⟨s ++ t, ?_, by rw [app_len]; omega⟩
  rw [eBin_ap, e1, R.okb, e2, R.okb, dAdd_s (by omega)]
theorem tx_sl {n : Nat} {f : En → R D} {ρ : En} {l h : En → R (Option Int)} {a b : Option Int} (hf : Tx n f ρ) (hn : n ≤ 100000) (hl : l ρ = .ok a) (hh : h ρ = .ok b) : Tx n (eSl f l h) ρ := by
  obtain ⟨s, e1, l1⟩ := hf
  refine ⟨cutS s a b, ?_, Nat.le_trans (cutS_length s a b) l1⟩
  rw [eSl_ap, e1, R.okb, hl, R.okb, hh, R.okb, dSl_s (by omega)]
theorem tx_ret {n : Nat} {f : En → R D} {ρ : En} {m : Nat} (h : Tx n f ρ) (hm : n ≤ m) : ∃ s : Str, (sRet f ρ >>= outK) = .ok (.str s) ∧ s.length ≤ m := by
  obtain ⟨s, e1, l1⟩ := h
  exact ⟨s, ret_out e1, by omega⟩
theorem oS {f : En → R D} {ρ : En} {i : Int} (h : f ρ = .ok (.int i)) : oSome f ρ = .ok (some i) := by
  rw [oSome_ap, h, R.okb]; rfl
theorem seq_if {c : En → R Bool} {f g : En → R Out} {ρ : En} {b : Bool} {P : R D → Prop} (h : c ρ = .ok b) (h1 : P (f ρ >>= outK) ∨ b = false) (hf : b = true → ∃ d, f ρ = .ok (.rt d)) (h2 : P (g ρ >>= outK)) : P (sSeq (sIf c f sNext) g ρ >>= outK) := by
  cases b with
  | false => rw [seq_go (if_f h rfl) rfl]; exact h2
  | true =>
    obtain ⟨d, hd⟩ := hf rfl
    rw [seq_rt (if_t h hd)]
    rcases h1 with h1 | h1
    · rw [hd] at h1; exact h1
    · cases h1
/-- if c: return f, else on: a text either way -/
theorem tx_if {c : En → R Bool} {f : En → R D} {g : En → R Out} {ρ : En} {b : Bool} {n m : Nat} (h : c ρ = .ok b) (h1 : b = true → Tx n f ρ) (hm : n ≤ m) (h2 : b = false → ∃ s : Str, (g ρ >>= outK) = .ok (.str s) ∧ s.length ≤ m) : ∃ s : Str, (sSeq (sIf c (sRet f) sNext) g ρ >>= outK) = .ok (.str s) ∧ s.length ≤ m := by
  cases b with
  | false => rw [seq_go (if_f h rfl) rfl]; exact h2 rfl
  | true =>
    obtain ⟨s, e1, l1⟩ := h1 rfl
    exact ⟨s, seq_rt (if_t h (ret_of e1)), by omega⟩
theorem signs_changed {line : Str} (hl : line.length ≤ 1000) (a b c d : Int) : ∃ s : Str, m__law_signs_changed [.str line, .lst [.int a, .int b, .int c, .int d]] = .ok (.str s) ∧ s.length ≤ 10000 := by
  unfold m__law_signs_changed
  rw [runD2]
  unfold b__law_signs_changed
  have i0 : dIx (.lst [.int a, .int b, .int c, .int d]) (.int 0) = .ok (.int a) := rfl
  have i1 : dIx (.lst [.int a, .int b, .int c, .int d]) (.int 1) = .ok (.int b) := rfl
  have i2 : dIx (.lst [.int a, .int b, .int c, .int d]) (.int 2) = .ok (.int c) := rfl
  have i3 : dIx (.lst [.int a, .int b, .int c, .int d]) (.int 3) = .ok (.int d) := rfl
  generalize D.lst [.int a, .int b, .int c, .int d] = P at *
  have hS : SIGNS.length ≤ 16777216 := by decide
  have hS0 : 0 < SIGNS.length := by decide
  have h6 : (" 0.,1a" : Str).length = 6 := by decide
  obtain ⟨s0, hs0⟩ := str_mod hS hS0 a
  obtain ⟨s1, hs1⟩ := str_mod (z := " 0.,1a") (by decide) (by decide) a
  rw [h6] at hs1
  have hA1 : 0 ≤ c % ((line.length : Int) + 1) := Int.emod_nonneg _ (by omega)
  have hA2 : c % ((line.length : Int) + 1) < (line.length : Int) + 1 := Int.emod_lt_of_pos _ (by omega)
  have hll : line.length ≤ 16777216 := by omega
  have hlp : (0 : Int) < (line.length : Int) + 1 := by omega
  generalize hAt : c % ((line.length : Int) + 1) = A at hA1 hA2
  generalize hK : d % 5 = KK
  -- the sign
  have e3 : ∃ sg : Str, sg.length = 1 ∧ sIf (tst (eBin dGt (eBin dMod (eCall dInt (eCons (eBin dIx (eVar 1) (eC (.int 1))) eNil)) (eC (.int 3))) (eC (.int 0)))) (sSet 3 (eBin dIx (eC (.str " 0.,1a")) (eBin dMod (eCall dInt (eCons (eBin dIx (eVar 1) (eC (.int 0))) eNil)) (eC (.int 6))))) sNext [.fz (.str line), .fz P, .fz (.str SIGNS), .fz (.str ⟨#[s0]⟩), .un, .un] = .ok (.nx [.fz (.str line), .fz P, .fz (.str SIGNS), .fz (.str sg), .un, .un]) := by
    have t : tst (eBin dGt (eBin dMod (eCall dInt (eCons (eBin dIx (eVar 1) (eC (.int 1))) eNil)) (eC (.int 3))) (eC (.int 0))) [.fz (.str line), .fz P, .fz (.str SIGNS), .fz (.str ⟨#[s0]⟩), .un, .un] = .ok (decide (0 < b % 3)) := by
      simp only [tst_ap, eBin_ap, eCall_ap, eCons_ap, eNil_ap, eVar_s, eVar_z, eC_ap, R.okb, i1, dInt_i]
      rw [dMod_i (by decide)]
      simp only [R.okb, dGt_i, asB_bl]
    cases hb : decide (0 < b % 3) with
    | true =>
      rw [hb] at t
      refine ⟨⟨#[s1]⟩, rfl, if_t t ((set_of (d := .str ⟨#[s1]⟩) ?_).trans rfl)⟩
      simp only [eBin_ap, eCall_ap, eCons_ap, eNil_ap, eVar_s, eVar_z, eC_ap, R.okb, i0, dInt_i]
      rw [dMod_i (by decide), R.okb]
      exact hs1
    | false =>
      rw [hb] at t
      exact ⟨⟨#[s0]⟩, rfl, if_f t rfl⟩
  obtain ⟨sg, hsg, e3⟩ := e3
  have body : ∃ s : Str, (sSeq (sIf (bOr (tst (eBin dEq (eVar 5) (eC (.int 0)))) (tst (eBin dEq (eVar 4) (eCall dLen (eCons (eVar 0) eNil))))) (sRet (eBin dAdd (eBin dAdd (eSl (eVar 0) oNone (oSome (eVar 4))) (eVar 3)) (eSl (eVar 0) (oSome (eVar 4)) oNone))) sNext)
    (sSeq (sIf (tst (eBin dEq (eVar 5) (eC (.int 1)))) (sRet (eBin dAdd (eSl (eVar 0) oNone (oSome (eVar 4))) (eSl (eVar 0) (oSome (eBin dAdd (eVar 4) (eC (.int 1)))) oNone))) sNext)
    (sSeq (sIf (tst (eBin dEq (eVar 5) (eC (.int 2)))) (sRet (eBin dAdd (eBin dAdd (eSl (eVar 0) oNone (oSome (eVar 4))) (eBin dIx (eVar 0) (eVar 4))) (eSl (eVar 0) (oSome (eVar 4)) oNone))) sNext)
    (sSeq (sIf (tst (eBin dEq (eVar 5) (eC (.int 3)))) (sRet (eBin dAdd (eBin dAdd (eSl (eVar 0) oNone (oSome (eVar 4))) (eVar 3)) (eSl (eVar 0) (oSome (eBin dAdd (eVar 4) (eC (.int 1)))) oNone))) sNext)
    (sRet (eBin dAdd (eBin dAdd (eBin dAdd (eSl (eVar 0) oNone (oSome (eVar 4))) (eSl (eVar 0) (oSome (eBin dAdd (eVar 4) (eC (.int 1)))) (oSome (eBin dAdd (eVar 4) (eC (.int 2)))))) (eBin dIx (eVar 0) (eVar 4))) (eSl (eVar 0) (oSome (eBin dAdd (eVar 4) (eC (.int 2)))) oNone)))))) [.fz (.str line), .fz P, .fz (.str SIGNS), .fz (.str sg), .fz (.int A), .fz (.int KK)] >>= outK) = .ok (.str s) ∧ s.length ≤ 10000 := by
    generalize hρ : [Sl.fz (.str line), .fz P, .fz (.str SIGNS), .fz (.str sg), .fz (.int A), .fz (.int KK)] = ρ
    have v0 : eVar 0 ρ = .ok (.str line) := by rw [← hρ]; rfl
    have v3 : eVar 3 ρ = .ok (.str sg) := by rw [← hρ]; rfl
    have v4 : eVar 4 ρ = .ok (.int A) := by rw [← hρ]; rfl
    have v5 : eVar 5 ρ = .ok (.int KK) := by rw [← hρ]; rfl
    clear hρ
    have T0 : Tx 1000 (eVar 0) ρ := ⟨line, v0, hl⟩
    have T3 : Tx 1 (eVar 3) ρ := ⟨sg, v3, by omega⟩
    have o4 := oS v4
    have o41 : oSome (eBin dAdd (eVar 4) (eC (.int 1))) ρ = .ok (some (A + 1)) := oS (by rw [eBin_ap, v4, R.okb, eC_ap, R.okb, dAdd_i])
    have o42 : oSome (eBin dAdd (eVar 4) (eC (.int 2))) ρ = .ok (some (A + 2)) := oS (by rw [eBin_ap, v4, R.okb, eC_ap, R.okb, dAdd_i])
    have c1 : bOr (tst (eBin dEq (eVar 5) (eC (.int 0)))) (tst (eBin dEq (eVar 4) (eCall dLen (eCons (eVar 0) eNil)))) ρ = .ok (KK == 0 || A == (line.length : Int)) := by
      rw [bOr_ap, eq_of v5, R.okb]
      cases (KK == 0) with
      | true => rfl
      | false =>
        rw [if_neg (by decide), tst_ap, eBin_ap, v4, R.okb, call1 v0, dLen_s hll, R.okb, dEq_i, R.okb]; rfl
    have S1 : Tx 1000 (eSl (eVar 0) oNone (oSome (eVar 4))) ρ := tx_sl T0 (by decide) rfl o4
    have S2 : Tx 1000 (eSl (eVar 0) (oSome (eVar 4)) oNone) ρ := tx_sl T0 (by decide) o4 rfl
    have S3 : Tx 1000 (eSl (eVar 0) (oSome (eBin dAdd (eVar 4) (eC (.int 1)))) oNone) ρ := tx_sl T0 (by decide) o41 rfl
    have S4 : Tx 1000 (eSl (eVar 0) (oSome (eBin dAdd (eVar 4) (eC (.int 2)))) oNone) ρ := tx_sl T0 (by decide) o42 rfl
    have S5 : Tx 1000 (eSl (eVar 0) (oSome (eBin dAdd (eVar 4) (eC (.int 1)))) (oSome (eBin dAdd (eVar 4) (eC (.int 2))))) ρ := tx_sl T0 (by decide) o41 o42
    refine tx_if c1 (fun _ => tx_add (tx_add S1 T3 (by decide)) S2 (by decide)) (by decide) fun hc1 => ?_
    have hA3 : A < (line.length : Int) := by
      rw [Bool.or_eq_false_iff] at hc1
      have := hc1.2
      have : A ≠ (line.length : Int) := fun e => by rw [e] at this; simp at this
      omega
    obtain ⟨cc, hcc⟩ := str_ix hll hA1 hA3
    have T4 : Tx 1 (eBin dIx (eVar 0) (eVar 4)) ρ := ⟨⟨#[cc]⟩, by rw [eBin_ap, v0, R.okb, v4, R.okb]; exact hcc, Nat.le_refl 1⟩
    refine tx_if (eq_of v5) (fun _ => tx_add S1 S3 (by decide)) (by decide) fun _ => ?_
    refine tx_if (eq_of v5) (fun _ => tx_add (tx_add S1 T4 (by decide)) S2 (by decide)) (by decide) fun _ => ?_
    refine tx_if (eq_of v5) (fun _ => tx_add (tx_add S1 T3 (by decide)) S3 (by decide)) (by decide) fun _ => ?_
    exact tx_ret (tx_add (tx_add (tx_add S1 S5 (by decide)) T4 (by decide)) S4 (by decide)) (by decide)
  obtain ⟨s, hs, hsl⟩ := body
  refine ⟨s, ?_, hsl⟩
  simp only [List.replicate]
  refine seq_go (set_of (d := .str SIGNS) rfl) ?_
  simp only [List.set_cons_succ, List.set_cons_zero]
  refine seq_go (set_of (d := .str ⟨#[s0]⟩) ?_) ?_
  · simp only [eBin_ap, eCall_ap, eCons_ap, eNil_ap, eVar_s, eVar_z, eC_ap, R.okb, i0, dInt_i, dLen_s hS]
    rw [dMod_i (by omega), R.okb]
    exact hs0
  simp only [List.set_cons_succ, List.set_cons_zero]
  refine seq_go e3 ?_
  refine seq_go (set_of (d := .int A) ?_) ?_
  · simp only [eBin_ap, eCall_ap, eCons_ap, eNil_ap, eVar_s, eVar_z, eC_ap, R.okb, i2, dInt_i, dLen_s hll, dAdd_i]
    rw [dMod_i hlp, hAt]
  simp only [List.set_cons_succ, List.set_cons_zero]
  refine seq_go (set_of (d := .int KK) ?_) hs
  simp only [eBin_ap, eCall_ap, eCons_ap, eNil_ap, eVar_s, eVar_z, eC_ap, R.okb, i3, dInt_i]
  rw [dMod_i (by decide), hK]
end K32

namespace K32
open PySem PySem.Spec PyProof.Rows L2 DD TL TX

theorem ixN_nat {n m : Nat} (h : n < m) : ixN m (n : Nat) = some n := by
  unfold ixN
  rw [if_pos (by omega), if_pos (by omega)]; simp
theorem put_of {i : Nat} {k f : En → R D} {ρ : En} {l : List Str} {w : Str} {n : Nat} (hf : f ρ = .ok (.str w)) (ho : eOwn i ρ = .ok (l.map D.str)) (hk : k ρ = .ok (.int (n : Nat))) (hn : n < l.length) : sPut i k f ρ = .ok (.nx (ρ.set i (.ow ((l.set n w).map D.str)))) := by
  have e : sPut i k f ρ = (f ρ >>= fun d => eOwn i ρ >>= fun ds => k ρ >>= fun j => match j with
    | .int j => match ixN ds.length j with
      | some n => .ok (.nx (ρ.set i (.ow (ds.set n d))))
      | none => .bad
    | _ => .bad) := rfl
  rw [e, hf, R.okb, ho, R.okb, hk, R.okb]
  show (match ixN (l.map D.str).length (n : Nat) with
      | some n => R.ok (Out.nx (ρ.set i (.ow ((l.map D.str).set n (.str w)))))
      | none => .bad) = _
  rw [ixN_nat (by rw [List.length_map]; exact hn)]
  show R.ok (Out.nx (ρ.set i (.ow ((l.map D.str).set n (.str w))))) = _
  rw [← List.map_set]
theorem ixO_of {i : Nat} {k : En → R D} {ρ : En} {l : List Str} {n : Nat} (ho : eOwn i ρ = .ok (l.map D.str)) (hk : k ρ = .ok (.int (n : Nat))) (hn : n < l.length) : eIxO (eOwn i) k ρ = .ok (.str l[n]) := by
  have e : eIxO (eOwn i) k ρ = (eOwn i ρ >>= fun ds => k ρ >>= fun d => dIx (.lst ds) d) := rfl
  rw [e, ho, R.okb, hk, R.okb]
  exact dIx_l (by rw [List.getElem?_map, List.getElem?_eq_getElem hn]; rfl)
theorem ins_of {i : Nat} {k f : En → R D} {ρ : En} {l : List Str} {w : Str} {n : Nat} (hf : f ρ = .ok (.str w)) (ho : eOwn i ρ = .ok (l.map D.str)) (hk : k ρ = .ok (.int (n : Nat))) (hn : n < 1000000) (hl : l.length < 1000000) : sIns i k f ρ = .ok (.nx (ρ.set i (.ow ((l.take n ++ [w] ++ l.drop n).map D.str)))) := by
  have e : sIns i k f ρ = (eOwn i ρ >>= fun ds => k ρ >>= fun j => f ρ >>= fun d => match j with
    | .int j => guardR (decide (ds.length < 16777216) && decide (0 ≤ j) && decide (j < 2 ^ 63)) >>= fun _ => .ok (.nx (ρ.set i (.ow (ds.take j.toNat ++ [d] ++ ds.drop j.toNat))))
    | _ => .bad) := rfl
  have h63 : ((n : Nat) : Int) < 2 ^ 63 := Int.lt_of_lt_of_le (Int.ofNat_lt.mpr hn) (by decide)
  rw [e, ho, R.okb, hk, R.okb, hf, R.okb]
  show (guardR (decide ((l.map D.str).length < 16777216) && decide (0 ≤ ((n : Nat) : Int)) && decide (((n : Nat) : Int) < 2 ^ 63)) >>= fun _ => R.ok (Out.nx (ρ.set i (.ow ((l.map D.str).take ((n : Nat) : Int).toNat ++ [.str w] ++ (l.map D.str).drop ((n : Nat) : Int).toNat))))) = _
  rw [decide_eq_true h63, decide_eq_true (by rw [List.length_map]; omega), decide_eq_true (by omega)]
  rw [Int.toNat_natCast, ← List.map_take, ← List.map_drop]
  show R.ok _ = _
  rw [List.map_append, List.map_append]; rfl
theorem join_ret {ρ : En} {l : List Str} (ho : eOwn 2 ρ = .ok (l.map D.str)) (h1 : ∀ w ∈ l, w.length ≤ 600) (h2 : l.length ≤ 700) : ∃ s : Str, (sRet (fun ρ => (eC (.str " ")) ρ >>= fun x => (eOwn 2) ρ >>= fun ds => dJoin x ds) ρ >>= outK) = .ok (.str s) ∧ s.length ≤ 999999 := by
  have hs := sum_le (n := 600) h1
  refine ⟨Txt.join " " l, ret_out ?_, ?_⟩
  · show (eC (.str " ") ρ >>= fun x => (eOwn 2) ρ >>= fun ds => dJoin x ds) = _
    rw [eC_ap, R.okb, ho, R.okb, dJoin_s (by rw [sp1]; omega)]
  · cases l with
    | nil => rw [TX.join_nil]; exact Nat.zero_le _
    | cons a r =>
      have := join_len sep_sp (l := a :: r) (by simp)
      omega
theorem words_changed {line : Str} (hl : line.length ≤ 600) (a b c : Int) : ∃ s : Str, m__law_words_changed [.str line, .lst [.int a, .int b, .int c]] = .ok (.str s) ∧ s.length ≤ 999999 := by
  unfold m__law_words_changed
  rw [runD2]
  unfold b__law_words_changed
  have i0 : dIx (.lst [.int a, .int b, .int c]) (.int 0) = .ok (.int a) := rfl
  have i1 : dIx (.lst [.int a, .int b, .int c]) (.int 1) = .ok (.int b) := rfl
  have i2 : dIx (.lst [.int a, .int b, .int c]) (.int 2) = .ok (.int c) := rfl
  generalize D.lst [.int a, .int b, .int c] = P at *
  have hne : Txt.split line " " ≠ [] := split_ne sep_sp
  have hcnt := split_cnt (x := line) sep_sp
  have hle := fun p hp => split_le (x := line) sep_sp (p := p) hp
  generalize hws : Txt.split line " " = ws at *
  have hpos : 0 < ws.length := List.length_pos_iff.mpr hne
  obtain ⟨i, hi, hil⟩ := mod_nat a (m := (ws.length : Nat)) (by omega)
  obtain ⟨j, hj, hjl⟩ := mod_nat b (m := (ws.length : Nat)) (by omega)
  generalize hK : c % 3 = KK
  have mid : ∃ (l : List Str) (x : Sl), sIf (tst (eBin dEq (eVar 5) (eC (.int 0)))) (sSeq (sSet 6 (eIxO (eOwn 2) (eVar 3)))
      (sSeq (sPut 2 (eVar 3) (eIxO (eOwn 2) (eVar 4)))
      (sPut 2 (eVar 4) (eVar 6)))) (sIf (tst (eBin dEq (eVar 5) (eC (.int 1)))) (sSetO 2 (eCat (eSlL (eOwn 2) oNone (oSome (eVar 3))) (eSlL (eOwn 2) (oSome (eBin dAdd (eVar 3) (eC (.int 1)))) oNone))) (sIns 2 (eVar 4) (eIxO (eOwn 2) (eVar 3))))
      [.fz (.str line), .fz P, .ow (ws.map D.str), .fz (.int (i : Nat)), .fz (.int (j : Nat)), .fz (.int KK), .un] = .ok (.nx [.fz (.str line), .fz P, .ow (l.map D.str), .fz (.int (i : Nat)), .fz (.int (j : Nat)), .fz (.int KK), x]) ∧ (∀ w ∈ l, w ∈ ws) ∧ l.length ≤ ws.length + 1 := by
    have hi' : i < ws.length := by omega
    have hj' : j < ws.length := by omega
    cases h0 : (KK == 0) with
    | true =>
      have g1 : sSet 6 (eIxO (eOwn 2) (eVar 3)) [.fz (.str line), .fz P, .ow (ws.map D.str), .fz (.int (i : Nat)), .fz (.int (j : Nat)), .fz (.int KK), .un] = .ok (.nx [.fz (.str line), .fz P, .ow (ws.map D.str), .fz (.int (i : Nat)), .fz (.int (j : Nat)), .fz (.int KK), .fz (.str ws[i])]) := set_of (ixO_of rfl rfl hi')
      have g2 : sPut 2 (eVar 3) (eIxO (eOwn 2) (eVar 4)) [.fz (.str line), .fz P, .ow (ws.map D.str), .fz (.int (i : Nat)), .fz (.int (j : Nat)), .fz (.int KK), .fz (.str ws[i])] = .ok (.nx [.fz (.str line), .fz P, .ow ((ws.set i ws[j]).map D.str), .fz (.int (i : Nat)), .fz (.int (j : Nat)), .fz (.int KK), .fz (.str ws[i])]) := put_of (ixO_of rfl rfl hj') rfl rfl hi'
      have g3 : sPut 2 (eVar 4) (eVar 6) [.fz (.str line), .fz P, .ow ((ws.set i ws[j]).map D.str), .fz (.int (i : Nat)), .fz (.int (j : Nat)), .fz (.int KK), .fz (.str ws[i])] = .ok (.nx [.fz (.str line), .fz P, .ow (((ws.set i ws[j]).set j ws[i]).map D.str), .fz (.int (i : Nat)), .fz (.int (j : Nat)), .fz (.int KK), .fz (.str ws[i])]) := put_of rfl rfl rfl (by rw [List.length_set]; exact hj')
      refine ⟨(ws.set i ws[j]).set j ws[i], _, if_t (eqb rfl h0) (seq_go' g1 (seq_go' g2 g3)), fun w hw => ?_, by rw [List.length_set, List.length_set]; omega⟩
      rcases List.mem_or_eq_of_mem_set hw with hw | rfl
      · rcases List.mem_or_eq_of_mem_set hw with hw | rfl
        · exact hw
        · exact List.getElem_mem hj'
      · exact List.getElem_mem hi'
    | false =>
      cases h1 : (KK == 1) with
      | true =>
        have g1 : eCat (eSlL (eOwn 2) oNone (oSome (eVar 3))) (eSlL (eOwn 2) (oSome (eBin dAdd (eVar 3) (eC (.int 1)))) oNone) [.fz (.str line), .fz P, .ow (ws.map D.str), .fz (.int (i : Nat)), .fz (.int (j : Nat)), .fz (.int KK), .un] = .ok ((ws.take i ++ ws.drop (i + 1)).map D.str) := by
          have e : ∀ (f g : En → R (List D)) (ρ : En), eCat f g ρ = (f ρ >>= fun xs => g ρ >>= fun ys => guardR (small (xs.length + ys.length)) >>= fun _ => .ok (xs ++ ys)) := fun _ _ _ => rfl
          rw [e]
          simp only [eSlL_ap, eOwn_s, eOwn_z, R.okb, oNone_ap, oSome_ap, eVar_s, eVar_z, asI_i, eBin_ap, eC_ap, dAdd_i]
          rw [cutD_to, show ((i : Nat) : Int) + 1 = ((i + 1 : Nat) : Int) by omega, cutD_from]
          rw [small_of (by rw [List.length_take, List.length_drop, List.length_map]; omega), guardR_t, R.okb, ← List.map_take, ← List.map_drop, List.map_append]
        refine ⟨ws.take i ++ ws.drop (i + 1), .un, if_f (eqb rfl h0) (if_t (eqb rfl h1) (setO_of g1)), fun w hw => ?_, ?_⟩
        · rcases List.mem_append.mp hw with hw | hw
          · exact List.mem_of_mem_take hw
          · exact List.mem_of_mem_drop hw
        · rw [List.length_append, List.length_take, List.length_drop]; omega
      | false =>
        have g1 : sIns 2 (eVar 4) (eIxO (eOwn 2) (eVar 3)) [.fz (.str line), .fz P, .ow (ws.map D.str), .fz (.int (i : Nat)), .fz (.int (j : Nat)), .fz (.int KK), .un] = .ok (.nx [.fz (.str line), .fz P, .ow ((ws.take j ++ [ws[i]] ++ ws.drop j).map D.str), .fz (.int (i : Nat)), .fz (.int (j : Nat)), .fz (.int KK), .un]) := ins_of (ixO_of rfl rfl hi') rfl rfl (by omega) (by omega)
        refine ⟨ws.take j ++ [ws[i]] ++ ws.drop j, .un, if_f (eqb rfl h0) (if_f (eqb rfl h1) g1), fun w hw => ?_, ?_⟩
        · rcases List.mem_append.mp hw with hw | hw
          · rcases List.mem_append.mp hw with hw | hw
            · exact List.mem_of_mem_take hw
            · rw [List.mem_singleton.mp hw]; exact List.getElem_mem hi'
          · exact List.mem_of_mem_drop hw
        · rw [List.length_append, List.length_append, List.length_take, List.length_drop]
          simp only [List.length_cons, List.length_nil]
          omega
  obtain ⟨l, x, m1, m2, m3⟩ := mid
  obtain ⟨s, hs, hsl⟩ := join_ret (ρ := [.fz (.str line), .fz P, .ow (l.map D.str), .fz (.int (i : Nat)), .fz (.int (j : Nat)), .fz (.int KK), x]) (l := l) rfl (fun w hw => Nat.le_trans (hle w (m2 w hw)) hl) (by omega)
  refine ⟨s, ?_, hsl⟩
  simp only [List.replicate]
  refine seq_go (setO_of (ds := ws.map D.str) ?_) ?_
  · show (eVar 0 _ >>= fun x => (eC (.str " ")) _ >>= fun y => dSplit x y) = _
    rw [eVar_z, R.okb, eC_ap, R.okb, split_ok sp_len (by omega), hws]
  simp only [List.set_cons_succ, List.set_cons_zero]
  refine seq_go (set_of (d := .int (i : Nat)) ?_) ?_
  · simp only [eBin_ap, eCall_ap, eCons_ap, eNil_ap, eVar_s, eVar_z, eC_ap, R.okb, i0, dInt_i, eOwn_s, eOwn_z, dLenL_ap, List.length_map]
    rw [dMod_i (by omega), hi]
  simp only [List.set_cons_succ, List.set_cons_zero]
  refine seq_go (set_of (d := .int (j : Nat)) ?_) ?_
  · simp only [eBin_ap, eCall_ap, eCons_ap, eNil_ap, eVar_s, eVar_z, eC_ap, R.okb, i1, dInt_i, eOwn_s, eOwn_z, dLenL_ap, List.length_map]
    rw [dMod_i (by omega), hj]
  simp only [List.set_cons_succ, List.set_cons_zero]
  refine seq_go (set_of (d := .int KK) ?_) ?_
  · simp only [eBin_ap, eCall_ap, eCons_ap, eNil_ap, eVar_s, eVar_z, eC_ap, R.okb, i2, dInt_i]
    rw [dMod_i (by decide), hK]
  simp only [List.set_cons_succ, List.set_cons_zero]
  exact seq_go m1 hs
end K32

namespace K32
open PySem PySem.Spec PyProof.Rows L2 DD TL TX

theorem law_cell (ns : List Int) (k : Nat) : ∃ c : Int, m__law_cell [.rol (ns.map D.int), .int (k : Nat)] = .ok (.int c) := by
  unfold m__law_cell
  rw [runD2]
  unfold b__law_cell
  have t : tst (eBin dLt (eVar 1) (eCall dLen (eCons (eVar 0) eNil))) (.fz (.rol (ns.map D.int)) :: .fz (.int (k : Nat)) :: List.replicate 0 .un) = .ok (decide (((k : Nat) : Int) < (ns.length : Nat))) := by
    simp only [tst_ap, eBin_ap, eCall_ap, eCons_ap, eNil_ap, eVar_s, eVar_z, R.okb, dLen_r, dLt_i, asB_bl, List.length_map]
  by_cases h : k < ns.length
  · rw [decide_eq_true (by omega)] at t
    refine ⟨ns[k], seq_rt (if_t t (ret_of ?_))⟩
    simp only [eBin_ap, eVar_s, eVar_z, R.okb]
    exact dIx_r (by rw [List.getElem?_map, List.getElem?_eq_getElem h]; rfl)
  · rw [decide_eq_false (by omega)] at t
    exact ⟨0, seq_go (if_f t rfl) (ret_out rfl)⟩
theorem for_of {src : En → R (List D)} {tg : D → En → R En} {body : En → R Out} {ρ : En} {ds : List D} {r : R Out} (h : src ρ = .ok ds) (k : forR tg body ds ρ = r) : sFor src tg body ρ = r := by
  rw [sFor_ap, h, R.okb, k]
theorem call2 {ρ : En} {g : List D → R D} {f f' : En → R D} {x y : D} (h : f ρ = .ok x) (h' : f' ρ = .ok y) : eCall g (eCons f (eCons f' eNil)) ρ = g [x, y] := by
  simp only [eCall_ap, eCons_ap, h, h', R.okb, eNil_ap]
/-- a read line: the same, and written back -/
theorem other_ok {x : Str} (hx : x.length ≤ 999999) : ∃ p, m__law_read [.str x] = .ok p ∧ m_read_line [.str x] = .ok p ∧ m__law_same 12 [p, p] = .ok (.bl true) ∧ (p ≠ .non → m_line_of [p] = .ok (.str x)) := by
  have hs : Sm (Txt.split x " ") := Sm.split sep_sp hx
  refine ⟨rd (Txt.split x " "), law_read hx, read_line hx, same_refl 12 _ (rd_pl hs), fun hp => ?_⟩
  rw [(rd_line rfl hp hs).1, join_split sep_sp]
theorem isNon_ne {p : D} (h : DD.isNon p = false) : p ≠ .non := fun e => by rw [e] at h; cases h
theorem not_same {ρ : En} {f g : En → R D} {x : D} (h : f ρ = .ok x) (h' : g ρ = .ok x) (hs : m__law_same 12 [x, x] = .ok (.bl true)) : bNot (fun ρ => (eCall (m__law_same 12) (eCons f (eCons g eNil))) ρ >>= truD) ρ = .ok false := by
  rw [bNot_ap, call2 h h', hs]; rfl
theorem other_step {x1 x2 x3 x4 x5 x6 x7 x8 x9 x10 S : Sl} {o : Str} (ho : o.length ≤ 999999) :
    ∃ y, (tgN 8 (.str o) [S, x1, x2, x3, x4, x5, x6, x7, x8, x9, x10] >>= b_law_0) = .ok (.nx [S, x1, x2, x3, x4, x5, x6, x7, .fz (.str o), y, x10]) := by
  obtain ⟨p, p1, p2, p3, p4⟩ := other_ok ho
  refine ⟨.fz p, ?_⟩
  rw [tgN_ap, R.okb]
  simp only [List.set_cons_succ, List.set_cons_zero]
  unfold b_law_0
  refine seq_go' (set_of (d := p) ?_) ?_
  · rw [call1 (x := .str o) rfl]; exact p1
  simp only [List.set_cons_succ, List.set_cons_zero]
  refine seq_go' (if_f (not_same (x := p) rfl ?_ p3) rfl) ?_
  · rw [call1 (x := .str o) rfl]; exact p2
  refine if_f ?_ rfl
  rw [bAnd_ap]
  have t : tst (eBin dNotN (eVar 9) (eC .non)) [S, x1, x2, x3, x4, x5, x6, x7, .fz (.str o), .fz p, x10] = .ok (!DD.isNon p) := rfl
  rw [t, R.okb]
  cases hn : DD.isNon p with
  | true => rfl
  | false =>
    rw [if_pos (by rfl)]
    refine not_same (x := .str o) rfl ?_ (same_str o)
    rw [call1 (x := p) rfl]
    exact p4 (isNon_ne hn)
theorem others_loop {x1 x2 x3 x4 x5 x6 x7 x10 S : Sl} : ∀ (os : List D) (x8 x9 : Sl), (∀ d ∈ os, ∃ s : Str, d = .str s ∧ s.length ≤ 999999) →
    ∃ y z, forR (tgN 8) b_law_0 os [S, x1, x2, x3, x4, x5, x6, x7, x8, x9, x10] = .ok (.nx [S, x1, x2, x3, x4, x5, x6, x7, y, z, x10])
  | [], x8, x9, _ => ⟨x8, x9, rfl⟩
  | d :: os, x8, x9, h => by
    obtain ⟨s, e, hs⟩ := h d (List.mem_cons_self ..)
    subst e
    obtain ⟨y, st⟩ := other_step (S := S) (x1 := x1) (x2 := x2) (x3 := x3) (x4 := x4) (x5 := x5) (x6 := x6) (x7 := x7) (x8 := x8) (x9 := x9) (x10 := x10) hs
    rw [forR_nx st]
    exact others_loop os _ _ fun d hd => h d (List.mem_cons_of_mem _ hd)
def Ot (d : D) : Prop := ∃ s : Str, d = .str s ∧ s.length ≤ 999999
theorem ln_line {p : D} (h : Ln p) : ∃ L : Str, L.length ≤ 500 ∧ m_line_of [p] = .ok (.str L) ∧ m__law_line [p] = .ok (.str L) ∧ m_read_line [.str L] = .ok p ∧ m__law_same 12 [p, p] = .ok (.bl true) := by
  obtain ⟨ws, e, hp, hne, hfree, hlen⟩ := h
  have hs : Sm ws := by unfold Sm; omega
  have hj := join_len sep_sp hne
  obtain ⟨a, b⟩ := rd_line e hp hs
  have hL : (Txt.join " " ws).length ≤ 999999 := by omega
  refine ⟨Txt.join " " ws, by omega, a, b, ?_, ?_⟩
  · rw [read_line hL, split_join1 sep_sp hne hfree, e]
  · rw [← e]; exact same_refl 12 _ (rd_pl hs)
theorem law_step (ns : List Int) {k : Nat} (hk : k < 10) {x1 x2 x3 x4 x5 x6 x7 x8 x9 : Sl} :
    ∃ y2 y5 y6 y7 y8 y9, (tgN 1 (.int (k : Nat)) [.fz (.rol (ns.map D.int)), x1, x2, x3, x4, x5, x6, x7, x8, x9, .un] >>= b_law_1) = .ok (.nx [.fz (.rol (ns.map D.int)), .fz (.int (k : Nat)), y2, x3, x4, y5, y6, y7, y8, y9, .un]) := by
  obtain ⟨c, hc⟩ := law_cell ns k
  obtain ⟨ds, d1, d2, d3⟩ := law_draws (c + 7919 * (k : Int)) (n := 130) (by decide)
  obtain ⟨m, hm, hm5⟩ := mod_nat ((k : Nat) : Int) (m := 5) (by decide)
  obtain ⟨p, p1, p2⟩ := law_parts (ds := ds) (k := m) (by omega) (by omega)
  obtain ⟨L, l1, l2, l3, l4, l5⟩ := ln_line p2
  generalize hS : Sl.fz (.rol (ns.map D.int)) = S
  have hSv : ∀ r, eVar 0 (S :: r) = .ok (.rol (ns.map D.int)) := fun r => by rw [← hS]; rfl
  rw [tgN_ap, R.okb]
  simp only [List.set_cons_succ, List.set_cons_zero]
  unfold b_law_1
  generalize hG1 : eComp _ _ _ _ (eCall m__law_signs_changed _) = G1
  generalize hG2 : eComp _ _ _ _ (eCall m__law_words_changed _) = G2
  obtain ⟨c1, u1, u2, u3⟩ : ∃ cs, G1 [S, .fz (.int (k : Nat)), .fz (.lst (ds.map D.int)), x3, x4, .fz p, .fz (.str L), x7, x8, x9, .un] = .ok cs ∧ cs.length = 4 ∧ ∀ c ∈ cs, Ot c := by
    rw [← hG1]
    refine eComp_rngE 4 Ot (i := 4) rfl rfl (by omega) rfl fun t ht => ?_
    rw [tgN_ap, R.okb]
    obtain ⟨a, b, c, e, e4⟩ := sl4 (ds := ds) (p := 102 + 4 * t) (q := 106 + 4 * t) (by omega) (by omega)
    obtain ⟨s, e5, e6⟩ := signs_changed (line := L) (by omega) a b c e
    refine ⟨.str s, ?_, s, rfl, by omega⟩
    rw [call2 (x := .str L) rfl (sl_of rfl (at_lin (k := t) (m := 4) (c := 102) (mn := 4) (cn := 102) rfl rfl rfl (by decide)) (at_lin (k := t) (m := 4) (c := 106) (mn := 4) (cn := 106) rfl rfl rfl (by decide))), e4]
    exact e5
  clear hG1
  obtain ⟨c2, v1, v2, v3⟩ : ∃ cs, G2 [S, .fz (.int (k : Nat)), .fz (.lst (ds.map D.int)), x3, x4, .fz p, .fz (.str L), .fz (.lst c1), x8, x9, .un] = .ok cs ∧ cs.length = 2 ∧ ∀ c ∈ cs, Ot c := by
    rw [← hG2]
    refine eComp_rngE 2 Ot (i := 2) rfl rfl (by omega) rfl fun t ht => ?_
    rw [tgN_ap, R.okb]
    obtain ⟨a, b, c, e4⟩ := sl3 (ds := ds) (p := 118 + 3 * t) (q := 121 + 3 * t) (by omega) (by omega)
    obtain ⟨s, e5, e6⟩ := words_changed (line := L) (by omega) a b c
    refine ⟨.str s, ?_, s, rfl, e6⟩
    rw [call2 (x := .str L) rfl (sl_of rfl (at_lin (k := t) (m := 3) (c := 118) (mn := 3) (cn := 118) rfl rfl rfl (by decide)) (at_lin (k := t) (m := 3) (c := 121) (mn := 3) (cn := 121) rfl rfl rfl (by decide))), e4]
    exact e5
  clear hG2
  have hLs : (L ++ " ").length ≤ 999999 := by rw [app_len, sp1]; omega
  have hsL : (" " ++ L).length ≤ 999999 := by rw [app_len, sp1]; omega
  obtain ⟨y, z, w1⟩ := others_loop (S := S) (x1 := .fz (.int (k : Nat))) (x2 := .fz (.lst (ds.map D.int))) (x3 := x3) (x4 := x4) (x5 := .fz p) (x6 := .fz (.str L)) (x7 := .fz (.lst (c1 ++ c2))) (x10 := .un) ((c1 ++ c2) ++ [.str (L ++ " "), .str (" " ++ L)]) x8 x9 (fun d hd => by
    rcases List.mem_append.mp hd with hd | hd
    · rcases List.mem_append.mp hd with hd | hd
      · exact u3 d hd
      · exact v3 d hd
    · rcases List.mem_cons.mp hd with rfl | hd
      · exact ⟨_, rfl, hLs⟩
      · rw [List.mem_singleton.mp hd]; exact ⟨_, rfl, hsL⟩)
  refine ⟨.fz (.lst (ds.map D.int)), .fz p, .fz (.str L), .fz (.lst (c1 ++ c2)), y, z, ?_⟩
  refine seq_go' (set_of (d := .lst (ds.map D.int)) ?_) ?_
  · rw [call2 (x := .int (c + 7919 * (k : Int))) (y := .int (130 : Nat)) ?_ rfl]
    · exact d1
    · rw [eBin_ap, call2 (hSv _) rfl, hc, R.okb, eBin_ap, eC_ap, R.okb, eVar_s, eVar_z, R.okb, dMul_l (by decide), R.okb, dAdd_i]
  simp only [List.set_cons_succ, List.set_cons_zero]
  refine seq_go' (set_of (d := p) ?_) ?_
  · rw [call2 (x := .int (m : Nat)) (y := .lst (ds.map D.int)) ?_ rfl]
    · exact p1
    · simp only [eBin_ap, eCall_ap, eCons_ap, eNil_ap, eVar_s, eVar_z, eC_ap, R.okb, dInt_i]
      rw [dMod_i (by decide), hm]
  simp only [List.set_cons_succ, List.set_cons_zero]
  refine seq_go' (set_of (d := .str L) ?_) ?_
  · rw [call1 (x := p) rfl]; exact l3
  simp only [List.set_cons_succ, List.set_cons_zero]
  refine seq_go' (if_f ?_ rfl) ?_
  · rw [bOr_ap, not_same (x := .str L) rfl ?_ (same_str L), R.okb, if_neg (by decide)]
    · refine not_same (x := p) rfl ?_ l5
      rw [call1 (x := .str L) rfl]; exact l4
    · rw [call1 (x := p) rfl]; exact l2
  refine seq_go' (set_of (d := .lst c1) (toLst_of u1)) ?_
  simp only [List.set_cons_succ, List.set_cons_zero]
  refine seq_go' (set_of (d := .lst (c1 ++ c2)) ?_) ?_
  · rw [eBin_ap, eVar_s, eVar_s, eVar_s, eVar_s, eVar_s, eVar_s, eVar_s, eVar_z, R.okb, toLst_of v1, R.okb, dAdd_l (by omega)]
  simp only [List.set_cons_succ, List.set_cons_zero]
  have src : (fun ρ => (eBin dAdd (eVar 7) (toLst (eLst (eCons (eBin dAdd (eVar 6) (eC (.str " "))) (eCons (eBin dAdd (eC (.str " ")) (eVar 6)) eNil))))) ρ >>= items) [S, .fz (.int (k : Nat)), .fz (.lst (ds.map D.int)), x3, x4, .fz p, .fz (.str L), .fz (.lst (c1 ++ c2)), x8, x9, .un] = .ok ((c1 ++ c2) ++ [.str (L ++ " "), .str (" " ++ L)]) := by
    simp only [eBin_ap, eVar_s, eVar_z, R.okb, toLst_ap, eLst_ap, eCons_ap, eC_ap, eNil_ap]
    rw [dAdd_s (by rw [sp1]; omega), R.okb, dAdd_s (by rw [sp1]; omega)]
    simp only [R.okb, List.length_cons, List.length_nil]
    rw [small_of (by decide)]
    simp only [guardR_t, R.okb]
    rw [dAdd_l (by simp; omega)]
    rfl
  exact for_of src w1
end K32

namespace K32
open PySem PySem.Spec PyProof.Rows L2 DD TL TX

theorem enumD_eq : ∀ (ds : List D) (k : Nat), enumD k ds = (List.range ds.length).map fun j => D.tup [.int ((k + j : Nat) : Int), ds.getD j .non]
  | [], _ => rfl
  | d :: ds, k => by
    rw [List.length_cons, List.range_succ_eq_map, List.map_cons, List.map_map]
    show D.tup [.int (k : Int), d] :: enumD (k + 1) ds = _
    rw [enumD_eq ds (k + 1)]
    congr 1
    refine List.map_congr_left fun j _ => ?_
    show D.tup [.int ((k + 1 + j : Nat) : Int), ds.getD j .non] = D.tup [.int ((k + (j + 1) : Nat) : Int), (d :: ds).getD (j + 1) .non]
    rw [show k + 1 + j = k + (j + 1) by omega]
    rfl
theorem nl1 : ("\n" : Str).length = 1 := by decide
theorem em0 : ("" : Str).length = 0 := by decide
theorem sum_lin {n : Nat} {f : Nat → Str} {b : Nat} (h : ∀ k, k < n → (f k).length ≤ b) : (((List.range n).map f).map (·.length)).sum ≤ b * n := by
  have := sum_le (n := b) (l := (List.range n).map f) fun w hw => by
    obtain ⟨k, hk, rfl⟩ := List.mem_map.mp hw
    exact h k (List.mem_range.mp hk)
  rwa [List.length_map, List.length_range] at this
theorem join_f {n : Nat} {f : Nat → Str} (hn : n ≤ 100) (h : ∀ k, k < n → (f k).length ≤ 1000) : dJoin (.str "") ((List.range n).map fun k => D.str (f k)) = .ok (.str (Txt.join "" ((List.range n).map f))) := by
  have e : (List.range n).map (fun k => D.str (f k)) = ((List.range n).map f).map D.str := by rw [List.map_map]; rfl
  have := sum_lin h
  rw [e, dJoin_s (by rw [em0]; omega)]
theorem case_line {n : Nat} {cs : List D} (h : ∀ c ∈ cs, Kp c) (hl : cs.length ≤ 100) : ∃ f : Nat → Str × D × D, ∀ k, k < cs.length → cs[k]? = some (.tup [(f k).2.1, (f k).2.2]) ∧ (f k).1.length ≤ 500 ∧ m_line_of [.tup [.str "kept", .int (k : Nat), (f k).2.1, (f k).2.2]] = .ok (.str (f k).1) ∧ m__law_line [.tup [.str "kept", .int (k : Nat), (f k).2.1, (f k).2.2]] = .ok (.str (f k).1) := by
  refine Classical.axiomOfChoice (r := fun k (y : Str × D × D) => k < cs.length → cs[k]? = some (.tup [y.2.1, y.2.2]) ∧ y.1.length ≤ 500 ∧ m_line_of [.tup [.str "kept", .int (k : Nat), y.2.1, y.2.2]] = .ok (.str y.1) ∧ m__law_line [.tup [.str "kept", .int (k : Nat), y.2.1, y.2.2]] = .ok (.str y.1)) fun k => ?_
  by_cases hk : k < cs.length
  · obtain ⟨as, bs, e, k3, k4, k5, k6, k7⟩ := h cs[k] (List.getElem_mem hk)
    obtain ⟨L, l1, l2, l3, _, _⟩ := ln_line (kept_ln (n0 := .int (k : Nat)) ⟨k, by omega, rfl⟩ k3 k4 k5 k6 k7)
    exact ⟨(L, .tup as, .tup bs), fun _ => ⟨by rw [List.getElem?_eq_getElem hk, e], l1, l2, l3⟩⟩
  · exact ⟨("", .non, .non), fun h => absurd h hk⟩
theorem kept_same {cs : List D} (h : ∀ c ∈ cs, Kp c) (hl : cs.length ≤ 100) : ∃ f : Nat → Str, (∀ k, k < cs.length → (f k).length ≤ 1000) ∧ m_kept_text [.tup cs] = .ok (.str (Txt.join "" ((List.range cs.length).map f))) ∧
    ∀ k, k < cs.length → ∀ ρ, eVar 3 ρ = .ok (.tup cs) → eVar 1 ρ = .ok (.int (k : Nat)) →
      eBin dAdd (eCall m__law_line (eCons (eTup (eCons (eC (.str "kept")) (eCons (eVar 1) (eCons (eBin dIx (eBin dIx (eVar 3) (eVar 1)) (eC (.int 0))) (eCons (eBin dIx (eBin dIx (eVar 3) (eVar 1)) (eC (.int 1))) eNil))))) eNil)) (eC (.str "\n")) ρ = .ok (.str (f k)) := by
  obtain ⟨f, hf⟩ := case_line (n := 0) h hl
  have hlen : ∀ k, k < cs.length → ((f k).1 ++ "\n" : Str).length ≤ 1000 := fun k hk => by
    rw [app_len, nl1]
    have := (hf k hk).2.1
    omega
  refine ⟨fun k => (f k).1 ++ "\n", hlen, ?_, fun k hk ρ v3 v1 => ?_⟩
  · unfold m_kept_text
    rw [runD1]
    unfold b_kept_text
    refine ret_out ?_
    show (eC (.str "") _ >>= fun x => (eComp _ _ _ _ _ _) >>= fun ds => dJoin x ds) = _
    rw [eC_ap, R.okb]
    rw [eComp_map (l := List.range cs.length) (g := fun j => D.tup [.int ((0 + j : Nat) : Int), cs.getD j .non]) (f := fun k => D.str ((f k).1 ++ "\n")) (by
        show (eCons (eVar 0) eNil _ >>= dEnum) = _
        rw [eCons_ap, eVar_z, R.okb, eNil_ap, R.okb, R.okb]
        show (items (.tup cs) >>= fun as => R.ok (enumD 0 as)) = _
        rw [items_t, R.okb, enumD_eq]) rfl (by rw [List.length_range]; omega) (fun k hk => by
        have hk := List.mem_range.mp hk
        obtain ⟨h1, h2, h3, h4⟩ := hf k hk
        have e : cs.getD k .non = .tup [(f k).2.1, (f k).2.2] := by rw [List.getD_eq_getElem?_getD, h1]; rfl
        rw [e, Nat.zero_add]
        simp only [wipeE, List.set_cons_succ, List.set_cons_zero, List.replicate, tgT_ap, List.length_cons, List.length_nil, Nat.zero_add, Nat.reduceAdd, beq_self_eq_true, guardR_t, R.okb, tgsCons_ap, tgN_ap, tgsNil_ap]
        rw [eBin_ap, call1 (x := .tup [.str "kept", .int (k : Nat), (f k).2.1, (f k).2.2]) (tup_of (cons_of rfl (cons_of rfl (cons_of rfl (cons_of rfl rfl)))) (by simp)), h3, R.okb, eC_ap, R.okb, dAdd_s (by rw [nl1]; omega)])]
    rw [R.okb]
    exact join_f hl hlen
  · obtain ⟨h1, h2, h3, h4⟩ := hf k hk
    have ix : eBin dIx (eVar 3) (eVar 1) ρ = .ok (.tup [(f k).2.1, (f k).2.2]) := by
      rw [eBin_ap, v3, R.okb, v1, R.okb]
      exact dIx_t h1
    have e0 : eBin dIx (eBin dIx (eVar 3) (eVar 1)) (eC (.int 0)) ρ = .ok (f k).2.1 := by
      rw [eBin_ap, ix, R.okb, eC_ap, R.okb]; rfl
    have e1 : eBin dIx (eBin dIx (eVar 3) (eVar 1)) (eC (.int 1)) ρ = .ok (f k).2.2 := by
      rw [eBin_ap, ix, R.okb, eC_ap, R.okb]; rfl
    rw [eBin_ap, call1 (x := .tup [.str "kept", .int (k : Nat), (f k).2.1, (f k).2.2]) (tup_of (cons_of rfl (cons_of v1 (cons_of e0 (cons_of e1 rfl)))) (by simp)), h4, R.okb, eC_ap, R.okb, dAdd_s (by rw [nl1]; omega)]
theorem law_true (ns : List Int) (hns : ns.length ≤ 63) : m_law [.rol (ns.map D.int)] = .ok (.bl true) := by
  unfold m_law
  rw [runD1]
  unfold b_law
  obtain ⟨ρ', f1, x1, x2, x3, x4, x5, x6, x7, x8, x9, f2, f3⟩ := forRng_inv (tg := tgN 1) (body := b_law_1) (n := 10) (fun k ρ => ∃ x1 x2 x3 x4 x5 x6 x7 x8 x9, ρ = [.fz (.rol (ns.map D.int)), x1, x2, x3, x4, x5, x6, x7, x8, x9, .un] ∧ (x1 = .un ∨ ∃ d, x1 = .fz d))
    (fun k hk ρ ⟨x1, x2, x3, x4, x5, x6, x7, x8, x9, e, _⟩ => by
      subst e
      obtain ⟨y2, y5, y6, y7, y8, y9, st⟩ := law_step ns hk (x1 := x1) (x2 := x2) (x3 := x3) (x4 := x4) (x5 := x5) (x6 := x6) (x7 := x7) (x8 := x8) (x9 := x9)
      exact ⟨_, st, _, _, _, _, _, _, _, _, _, rfl, .inr ⟨_, rfl⟩⟩)
    [.fz (.rol (ns.map D.int)), .un, .un, .un, .un, .un, .un, .un, .un, .un, .un] ⟨_, _, _, _, _, _, _, _, _, rfl, .inl rfl⟩
  have hno : ∀ a b c d e f g h i : Sl, noOwn [a, x1, b, c, d, e, f, g, h, i, .un] [1] = true := fun _ _ _ _ _ _ _ _ _ => by
    rcases f3 with rfl | ⟨d, rfl⟩ <;> rfl
  refine seq_go (ρ' := ρ') ?_ ?_
  · rw [sFor_rng 10 (i := 10) rfl rfl (by omega)]
    exact f1
  subst f2
  obtain ⟨c, hc⟩ := law_cell ns 10
  obtain ⟨ds, d1, d2, d3⟩ := law_draws c (n := 420) (by decide)
  refine seq_go (set_of (d := .lst (ds.map D.int)) ?_) ?_
  · rw [call2 (x := .int c) (y := .int (420 : Nat)) ?_ rfl]
    · exact d1
    · rw [call2 (x := .rol (ns.map D.int)) (y := .int (10 : Nat)) rfl rfl]; exact hc
  simp only [List.set_cons_succ, List.set_cons_zero]
  have i0 : dIx (.lst (ds.map D.int)) (.int 0) = .ok (.int (ds[0]'(by omega))) := dIx_l (n := 0) (by rw [List.getElem?_map, List.getElem?_eq_getElem (by omega)]; rfl)
  have i1 : dIx (.lst (ds.map D.int)) (.int 1) = .ok (.int (ds[1]'(by omega))) := dIx_l (n := 1) (by rw [List.getElem?_map, List.getElem?_eq_getElem (by omega)]; rfl)
  generalize ds[0]'(by omega) = e0 at i0
  generalize ds[1]'(by omega) = e1 at i1
  obtain ⟨n, hn, hn5⟩ := mod_nat e0 (m := 5) (by decide)
  generalize hS : Sl.fz (.rol (ns.map D.int)) = S
  generalize hG1 : eComp _ _ _ _ (eCall m__law_kept _) = G1
  obtain ⟨cs, c1, c2, c3⟩ : ∃ cs, G1 [S, x1, .fz (.lst (ds.map D.int)), x3, x4, x5, x6, x7, x8, x9, .un] = .ok cs ∧ cs.length = n ∧ ∀ c ∈ cs, Kp c := by
    rw [← hG1]
    refine eComp_rngE n Kp (i := e0 % 5) ?_ hn (by omega) (hno _ _ _ _ _ _ _ _ _) fun k hk => ?_
    · simp only [eCons_ap, eBin_ap, eC_ap, eCall_ap, eVar_s, eVar_z, eNil_ap, R.okb, i0, dInt_i]
      rw [dMod_i (by decide)]
      simp only [R.okb]
    · rw [tgN_ap, R.okb]
      obtain ⟨d, e5, e6⟩ := law_kept (ds := (ds.drop (4 + 102 * k)).take 102) (by rw [List.length_take, List.length_drop]; omega)
      refine ⟨d, ?_, e6⟩
      rw [call1 (sl_of rfl (at_lin (k := k) (m := 102) (c := 4) (mn := 102) (cn := 4) rfl rfl rfl (by decide)) (at_lin (k := k) (m := 102) (c := 106) (mn := 102) (cn := 106) rfl rfl rfl (by decide))), cutD_nn, show 106 + 102 * k - (4 + 102 * k) = 102 by omega, ← List.map_drop, ← List.map_take]
      exact e5
  clear hG1
  refine seq_go (set_of (d := .tup cs) ?_) ?_
  · rw [eCall_ap, c1, R.okb, dTupL_ap]
  simp only [List.set_cons_succ, List.set_cons_zero]
  have h4 : ∃ cs' : List D, (∀ c ∈ cs', Kp c) ∧ cs'.length ≤ 100 ∧ sIf (bAnd (tst (eBin dEq (eBin dMod (eCall dInt (eCons (eBin dIx (eVar 2) (eC (.int 1))) eNil)) (eC (.int 4))) (eC (.int 0)))) (fun ρ => (eVar 3) ρ >>= truD)) (sSet 3 (eBin dAdd (eVar 3) (eSl (eVar 3) oNone (oSome (eC (.int 1)))))) sNext [S, x1, .fz (.lst (ds.map D.int)), .fz (.tup cs), x4, x5, x6, x7, x8, x9, .un] = .ok (.nx [S, x1, .fz (.lst (ds.map D.int)), .fz (.tup cs'), x4, x5, x6, x7, x8, x9, .un]) := by
    have t : bAnd (tst (eBin dEq (eBin dMod (eCall dInt (eCons (eBin dIx (eVar 2) (eC (.int 1))) eNil)) (eC (.int 4))) (eC (.int 0)))) (fun ρ => (eVar 3) ρ >>= truD) [S, x1, .fz (.lst (ds.map D.int)), .fz (.tup cs), x4, x5, x6, x7, x8, x9, .un] = .ok ((e1 % 4 == 0) && !cs.isEmpty) := by
      rw [bAnd_ap]
      simp only [tst_ap, eBin_ap, eCall_ap, eCons_ap, eNil_ap, eVar_s, eVar_z, eC_ap, R.okb, i1, dInt_i]
      rw [dMod_i (by decide)]
      simp only [R.okb, dEq_i, asB_bl]
      cases (e1 % 4 == 0) <;> rfl
    cases hb : ((e1 % 4 == 0) && !cs.isEmpty) with
    | false =>
      rw [hb] at t
      exact ⟨cs, c3, by omega, if_f t rfl⟩
    | true =>
      rw [hb] at t
      refine ⟨cs ++ cs.take 1, fun c hc => ?_, by rw [List.length_append, List.length_take]; omega, if_t t ((set_of (d := .tup (cs ++ cs.take 1)) ?_).trans rfl)⟩
      · rcases List.mem_append.mp hc with hc | hc
        · exact c3 c hc
        · exact c3 c (List.mem_of_mem_take hc)
      · simp only [eBin_ap, eVar_s, eVar_z, R.okb, eSl_ap, oNone_ap, oSome_ap, eC_ap, asI_i, dSl_t]
        rw [show DD.cutD cs none (some 1) = cs.take 1 from cutD_to cs 1, dAdd_t (by rw [List.length_take]; omega)]
  obtain ⟨cs', q1, q2, h4⟩ := h4
  refine seq_go h4 ?_
  obtain ⟨f, g1, g2, g3⟩ := kept_same q1 q2
  generalize hG2 : eComp _ _ _ _ (eBin dAdd _ _) = G2
  have r1 : G2 [S, x1, .fz (.lst (ds.map D.int)), .fz (.tup cs'), x4, x5, x6, x7, x8, x9, .un] = .ok ((List.range cs'.length).map fun k => D.str (f k)) := by
    rw [← hG2]
    refine eComp_rng cs'.length (fun k => D.str (f k)) (i := (cs'.length : Nat)) ?_ rfl (by omega) (hno _ _ _ _ _ _ _ _ _) fun k hk => ?_
    · rw [eCons_ap, call1 (x := .tup cs') rfl, dLen_t, R.okb]; rfl
    · rw [tgN_ap, R.okb]
      exact g3 k hk _ rfl rfl
  clear hG2
  refine seq_go (set_of (d := .lst ((List.range cs'.length).map fun k => D.str (f k))) (toLst_of r1)) ?_
  simp only [List.set_cons_succ, List.set_cons_zero]
  refine ret_out ?_
  rw [call2 (x := .str (Txt.join "" ((List.range cs'.length).map f))) (y := .str (Txt.join "" ((List.range cs'.length).map f))) ?_ ?_]
  · exact same_str _
  · show (eC (.str "") _ >>= fun x => (eVar 4 _ >>= ofLst) >>= fun ds => dJoin x ds) = _
    rw [eC_ap, R.okb, eVar_s, eVar_s, eVar_s, eVar_s, eVar_z, R.okb, ofLst_lst, R.okb]
    exact join_f q2 g1
  · rw [call1 (x := .tup cs') rfl]
    exact g2
end K32

namespace K32
open PySem PySem.Spec PyProof.Rows L2 DD
theorem all_mk {l : PySem.W.OpenLaw} {w : World} {K : PySem.W.Frag} {h : Heap} {mg : Str → Option Value} {fa : Addr} (X : K.In h) (G : h.Ns mainGlobals mg) (hfa : mg "law" = some (.ref fa))
    {f0 : Addr} {od0 an0 : Option Addr} {sl0 : Array (Option Value)} {oc0 kV0 dc0 pm0 cd0 ct0 : Value}
    {f1 : Addr} {od1 an1 : Option Addr} {sl1 : Array (Option Value)} {oc1 kV1 dc1 pm1 cd1 ct1 : Value}
    {f2 : Addr} {od2 an2 : Option Addr} {sl2 : Array (Option Value)} {oc2 kV2 dc2 pm2 cd2 ct2 : Value}
    {f3 : Addr} {od3 an3 : Option Addr} {sl3 : Array (Option Value)} {oc3 kV3 dc3 pm3 cd3 ct3 : Value}
    {f4 : Addr} {od4 an4 : Option Addr} {sl4 : Array (Option Value)} {oc4 kV4 dc4 pm4 cd4 ct4 : Value}
    {f5 : Addr} {od5 an5 : Option Addr} {sl5 : Array (Option Value)} {oc5 kV5 dc5 pm5 cd5 ct5 : Value}
    {f6 : Addr} {od6 an6 : Option Addr} {sl6 : Array (Option Value)} {oc6 kV6 dc6 pm6 cd6 ct6 : Value}
    {f7 : Addr} {od7 an7 : Option Addr} {sl7 : Array (Option Value)} {oc7 kV7 dc7 pm7 cd7 ct7 : Value}
    {f8 : Addr} {od8 an8 : Option Addr} {sl8 : Array (Option Value)} {oc8 kV8 dc8 pm8 cd8 ct8 : Value}
    {f9 : Addr} {od9 an9 : Option Addr} {sl9 : Array (Option Value)} {oc9 kV9 dc9 pm9 cd9 ct9 : Value}
    {f10 : Addr} {od10 an10 : Option Addr} {sl10 : Array (Option Value)} {oc10 kV10 dc10 pm10 cd10 ct10 : Value}
    {f11 : Addr} {od11 an11 : Option Addr} {sl11 : Array (Option Value)} {oc11 kV11 dc11 pm11 cd11 ct11 : Value}
    {f12 : Addr} {od12 an12 : Option Addr} {sl12 : Array (Option Value)} {oc12 kV12 dc12 pm12 cd12 ct12 : Value}
    {f13 : Addr} {od13 an13 : Option Addr} {sl13 : Array (Option Value)} {oc13 kV13 dc13 pm13 cd13 ct13 : Value}
    {f14 : Addr} {od14 an14 : Option Addr} {sl14 : Array (Option Value)} {oc14 kV14 dc14 pm14 cd14 ct14 : Value}
    {f15 : Addr} {od15 an15 : Option Addr} {sl15 : Array (Option Value)} {oc15 kV15 dc15 pm15 cd15 ct15 : Value}
    {f16 : Addr} {od16 an16 : Option Addr} {sl16 : Array (Option Value)} {oc16 kV16 dc16 pm16 cd16 ct16 : Value}
    {f17 : Addr} {od17 an17 : Option Addr} {sl17 : Array (Option Value)} {oc17 kV17 dc17 pm17 cd17 ct17 : Value}
    {f18 : Addr} {od18 an18 : Option Addr} {sl18 : Array (Option Value)} {oc18 kV18 dc18 pm18 cd18 ct18 : Value}
    {f19 : Addr} {od19 an19 : Option Addr} {sl19 : Array (Option Value)} {oc19 kV19 dc19 pm19 cd19 ct19 : Value}
    {f20 : Addr} {od20 an20 : Option Addr} {sl20 : Array (Option Value)} {oc20 kV20 dc20 pm20 cd20 ct20 : Value}
    {f21 : Addr} {od21 an21 : Option Addr} {sl21 : Array (Option Value)} {oc21 kV21 dc21 pm21 cd21 ct21 : Value}
    {f22 : Addr} {od22 an22 : Option Addr} {sl22 : Array (Option Value)} {oc22 kV22 dc22 pm22 cd22 ct22 : Value}
    {t_LETTERS : Tok}
    {t_MOST_LETTERS : Tok}
    {t_FIGURES : Tok}
    {t_MOST_FIGURES : Tok}
    {a_FORMS : Addr} {es_FORMS : Array DictEntry} {n_FORMS : Nat} {v_FORMS_0 : Value} {v_FORMS_1 : Value} {v_FORMS_2 : Value} {v_FORMS_3 : Value}
    (x0 : PySem.W.nsIn K mainGlobals "is_name" = some (some (.ref f0))) (l0 : K.lookup f0 = some ⟨oc0, od0, .func (PySem.W.fnOf "is_name" "is_name" (defArgs s_is_name) (defBody s_is_name) (defScope s_is_name) .none kV0 dc0 pm0 an0 cd0 ct0), sl0⟩) (c0 : PySem.W.codeIn K cd0 "is_name" = true) (k0 : PySem.W.keepIn K (.ref f0) = true)
    (x1 : PySem.W.nsIn K mainGlobals "_is_number" = some (some (.ref f1))) (l1 : K.lookup f1 = some ⟨oc1, od1, .func (PySem.W.fnOf "_is_number" "_is_number" (defArgs s__is_number) (defBody s__is_number) (defScope s__is_number) .none kV1 dc1 pm1 an1 cd1 ct1), sl1⟩) (c1 : PySem.W.codeIn K cd1 "_is_number" = true) (k1 : PySem.W.keepIn K (.ref f1) = true)
    (x2 : PySem.W.nsIn K mainGlobals "_plain_parts" = some (some (.ref f2))) (l2 : K.lookup f2 = some ⟨oc2, od2, .func (PySem.W.fnOf "_plain_parts" "_plain_parts" (defArgs s__plain_parts) (defBody s__plain_parts) (defScope s__plain_parts) .none kV2 dc2 pm2 an2 cd2 ct2), sl2⟩) (c2 : PySem.W.codeIn K cd2 "_plain_parts" = true) (k2 : PySem.W.keepIn K (.ref f2) = true)
    (x3 : PySem.W.nsIn K mainGlobals "_kept_parts" = some (some (.ref f3))) (l3 : K.lookup f3 = some ⟨oc3, od3, .func (PySem.W.fnOf "_kept_parts" "_kept_parts" (defArgs s__kept_parts) (defBody s__kept_parts) (defScope s__kept_parts) .none kV3 dc3 pm3 an3 cd3 ct3), sl3⟩) (c3 : PySem.W.codeIn K cd3 "_kept_parts" = true) (k3 : PySem.W.keepIn K (.ref f3) = true)
    (x4 : PySem.W.nsIn K mainGlobals "read_line" = some (some (.ref f4))) (l4 : K.lookup f4 = some ⟨oc4, od4, .func (PySem.W.fnOf "read_line" "read_line" (defArgs s_read_line) (defBody s_read_line) (defScope s_read_line) .none kV4 dc4 pm4 an4 cd4 ct4), sl4⟩) (c4 : PySem.W.codeIn K cd4 "read_line" = true) (k4 : PySem.W.keepIn K (.ref f4) = true)
    (x5 : PySem.W.nsIn K mainGlobals "line_of" = some (some (.ref f5))) (l5 : K.lookup f5 = some ⟨oc5, od5, .func (PySem.W.fnOf "line_of" "line_of" (defArgs s_line_of) (defBody s_line_of) (defScope s_line_of) .none kV5 dc5 pm5 an5 cd5 ct5), sl5⟩) (c5 : PySem.W.codeIn K cd5 "line_of" = true) (k5 : PySem.W.keepIn K (.ref f5) = true)
    (x6 : PySem.W.nsIn K mainGlobals "kept_text" = some (some (.ref f6))) (l6 : K.lookup f6 = some ⟨oc6, od6, .func (PySem.W.fnOf "kept_text" "kept_text" (defArgs s_kept_text) (defBody s_kept_text) (defScope s_kept_text) .none kV6 dc6 pm6 an6 cd6 ct6), sl6⟩) (c6 : PySem.W.codeIn K cd6 "kept_text" = true) (k6 : PySem.W.keepIn K (.ref f6) = true)
    (x7 : PySem.W.nsIn K mainGlobals "_law_same" = some (some (.ref f7))) (l7 : K.lookup f7 = some ⟨oc7, od7, .func (PySem.W.fnOf "_law_same" "_law_same" (defArgs s__law_same) (defBody s__law_same) (defScope s__law_same) .none kV7 dc7 pm7 an7 cd7 ct7), sl7⟩) (c7 : PySem.W.codeIn K cd7 "_law_same" = true) (k7 : PySem.W.keepIn K (.ref f7) = true)
    (x8 : PySem.W.nsIn K mainGlobals "_law_cell" = some (some (.ref f8))) (l8 : K.lookup f8 = some ⟨oc8, od8, .func (PySem.W.fnOf "_law_cell" "_law_cell" (defArgs s__law_cell) (defBody s__law_cell) (defScope s__law_cell) .none kV8 dc8 pm8 an8 cd8 ct8), sl8⟩) (c8 : PySem.W.codeIn K cd8 "_law_cell" = true) (k8 : PySem.W.keepIn K (.ref f8) = true)
    (x9 : PySem.W.nsIn K mainGlobals "_law_draws" = some (some (.ref f9))) (l9 : K.lookup f9 = some ⟨oc9, od9, .func (PySem.W.fnOf "_law_draws" "_law_draws" (defArgs s__law_draws) (defBody s__law_draws) (defScope s__law_draws) .none kV9 dc9 pm9 an9 cd9 ct9), sl9⟩) (c9 : PySem.W.codeIn K cd9 "_law_draws" = true) (k9 : PySem.W.keepIn K (.ref f9) = true)
    (x10 : PySem.W.nsIn K mainGlobals "_law_name" = some (some (.ref f10))) (l10 : K.lookup f10 = some ⟨oc10, od10, .func (PySem.W.fnOf "_law_name" "_law_name" (defArgs s__law_name) (defBody s__law_name) (defScope s__law_name) .none kV10 dc10 pm10 an10 cd10 ct10), sl10⟩) (c10 : PySem.W.codeIn K cd10 "_law_name" = true) (k10 : PySem.W.keepIn K (.ref f10) = true)
    (x11 : PySem.W.nsIn K mainGlobals "_law_integer" = some (some (.ref f11))) (l11 : K.lookup f11 = some ⟨oc11, od11, .func (PySem.W.fnOf "_law_integer" "_law_integer" (defArgs s__law_integer) (defBody s__law_integer) (defScope s__law_integer) .none kV11 dc11 pm11 an11 cd11 ct11), sl11⟩) (c11 : PySem.W.codeIn K cd11 "_law_integer" = true) (k11 : PySem.W.keepIn K (.ref f11) = true)
    (x12 : PySem.W.nsIn K mainGlobals "_law_word" = some (some (.ref f12))) (l12 : K.lookup f12 = some ⟨oc12, od12, .func (PySem.W.fnOf "_law_word" "_law_word" (defArgs s__law_word) (defBody s__law_word) (defScope s__law_word) .none kV12 dc12 pm12 an12 cd12 ct12), sl12⟩) (c12 : PySem.W.codeIn K cd12 "_law_word" = true) (k12 : PySem.W.keepIn K (.ref f12) = true)
    (x13 : PySem.W.nsIn K mainGlobals "_law_kept" = some (some (.ref f13))) (l13 : K.lookup f13 = some ⟨oc13, od13, .func (PySem.W.fnOf "_law_kept" "_law_kept" (defArgs s__law_kept) (defBody s__law_kept) (defScope s__law_kept) .none kV13 dc13 pm13 an13 cd13 ct13), sl13⟩) (c13 : PySem.W.codeIn K cd13 "_law_kept" = true) (k13 : PySem.W.keepIn K (.ref f13) = true)
    (x14 : PySem.W.nsIn K mainGlobals "_law_parts" = some (some (.ref f14))) (l14 : K.lookup f14 = some ⟨oc14, od14, .func (PySem.W.fnOf "_law_parts" "_law_parts" (defArgs s__law_parts) (defBody s__law_parts) (defScope s__law_parts) .none kV14 dc14 pm14 an14 cd14 ct14), sl14⟩) (c14 : PySem.W.codeIn K cd14 "_law_parts" = true) (k14 : PySem.W.keepIn K (.ref f14) = true)
    (x15 : PySem.W.nsIn K mainGlobals "_law_line" = some (some (.ref f15))) (l15 : K.lookup f15 = some ⟨oc15, od15, .func (PySem.W.fnOf "_law_line" "_law_line" (defArgs s__law_line) (defBody s__law_line) (defScope s__law_line) .none kV15 dc15 pm15 an15 cd15 ct15), sl15⟩) (c15 : PySem.W.codeIn K cd15 "_law_line" = true) (k15 : PySem.W.keepIn K (.ref f15) = true)
    (x16 : PySem.W.nsIn K mainGlobals "_law_number" = some (some (.ref f16))) (l16 : K.lookup f16 = some ⟨oc16, od16, .func (PySem.W.fnOf "_law_number" "_law_number" (defArgs s__law_number) (defBody s__law_number) (defScope s__law_number) .none kV16 dc16 pm16 an16 cd16 ct16), sl16⟩) (c16 : PySem.W.codeIn K cd16 "_law_number" = true) (k16 : PySem.W.keepIn K (.ref f16) = true)
    (x17 : PySem.W.nsIn K mainGlobals "_law_is_name" = some (some (.ref f17))) (l17 : K.lookup f17 = some ⟨oc17, od17, .func (PySem.W.fnOf "_law_is_name" "_law_is_name" (defArgs s__law_is_name) (defBody s__law_is_name) (defScope s__law_is_name) .none kV17 dc17 pm17 an17 cd17 ct17), sl17⟩) (c17 : PySem.W.codeIn K cd17 "_law_is_name" = true) (k17 : PySem.W.keepIn K (.ref f17) = true)
    (x18 : PySem.W.nsIn K mainGlobals "_law_read_kept" = some (some (.ref f18))) (l18 : K.lookup f18 = some ⟨oc18, od18, .func (PySem.W.fnOf "_law_read_kept" "_law_read_kept" (defArgs s__law_read_kept) (defBody s__law_read_kept) (defScope s__law_read_kept) .none kV18 dc18 pm18 an18 cd18 ct18), sl18⟩) (c18 : PySem.W.codeIn K cd18 "_law_read_kept" = true) (k18 : PySem.W.keepIn K (.ref f18) = true)
    (x19 : PySem.W.nsIn K mainGlobals "_law_read" = some (some (.ref f19))) (l19 : K.lookup f19 = some ⟨oc19, od19, .func (PySem.W.fnOf "_law_read" "_law_read" (defArgs s__law_read) (defBody s__law_read) (defScope s__law_read) .none kV19 dc19 pm19 an19 cd19 ct19), sl19⟩) (c19 : PySem.W.codeIn K cd19 "_law_read" = true) (k19 : PySem.W.keepIn K (.ref f19) = true)
    (x20 : PySem.W.nsIn K mainGlobals "_law_signs_changed" = some (some (.ref f20))) (l20 : K.lookup f20 = some ⟨oc20, od20, .func (PySem.W.fnOf "_law_signs_changed" "_law_signs_changed" (defArgs s__law_signs_changed) (defBody s__law_signs_changed) (defScope s__law_signs_changed) .none kV20 dc20 pm20 an20 cd20 ct20), sl20⟩) (c20 : PySem.W.codeIn K cd20 "_law_signs_changed" = true) (k20 : PySem.W.keepIn K (.ref f20) = true)
    (x21 : PySem.W.nsIn K mainGlobals "_law_words_changed" = some (some (.ref f21))) (l21 : K.lookup f21 = some ⟨oc21, od21, .func (PySem.W.fnOf "_law_words_changed" "_law_words_changed" (defArgs s__law_words_changed) (defBody s__law_words_changed) (defScope s__law_words_changed) .none kV21 dc21 pm21 an21 cd21 ct21), sl21⟩) (c21 : PySem.W.codeIn K cd21 "_law_words_changed" = true) (k21 : PySem.W.keepIn K (.ref f21) = true)
    (x22 : PySem.W.nsIn K mainGlobals "law" = some (some (.ref f22))) (l22 : K.lookup f22 = some ⟨oc22, od22, .func (PySem.W.fnOf "law" "law" (defArgs s_law) (defBody s_law) (defScope s_law) .none kV22 dc22 pm22 an22 cd22 ct22), sl22⟩) (c22 : PySem.W.codeIn K cd22 "law" = true) (k22 : PySem.W.keepIn K (.ref f22) = true)
    (z_abs : PySem.W.nsIn K mainGlobals "abs" = some none)
    (z_all : PySem.W.nsIn K mainGlobals "all" = some none)
    (z_any : PySem.W.nsIn K mainGlobals "any" = some none)
    (z_bool : PySem.W.nsIn K mainGlobals "bool" = some none)
    (z_enumerate : PySem.W.nsIn K mainGlobals "enumerate" = some none)
    (z_int : PySem.W.nsIn K mainGlobals "int" = some none)
    (z_isinstance : PySem.W.nsIn K mainGlobals "isinstance" = some none)
    (z_len : PySem.W.nsIn K mainGlobals "len" = some none)
    (z_list : PySem.W.nsIn K mainGlobals "list" = some none)
    (z_min : PySem.W.nsIn K mainGlobals "min" = some none)
    (z_range : PySem.W.nsIn K mainGlobals "range" = some none)
    (z_str : PySem.W.nsIn K mainGlobals "str" = some none)
    (z_tuple : PySem.W.nsIn K mainGlobals "tuple" = some none)
    (z_zip : PySem.W.nsIn K mainGlobals "zip" = some none)
    (g_LETTERS : PySem.W.nsIn K mainGlobals "LETTERS" = some (some (.str "abcdefghijklmnopqrstuvwxyz" t_LETTERS)))
    (g_MOST_LETTERS : PySem.W.nsIn K mainGlobals "MOST_LETTERS" = some (some (.int 12 t_MOST_LETTERS)))
    (g_FIGURES : PySem.W.nsIn K mainGlobals "FIGURES" = some (some (.str "0123456789" t_FIGURES)))
    (g_MOST_FIGURES : PySem.W.nsIn K mainGlobals "MOST_FIGURES" = some (some (.int 12 t_MOST_FIGURES)))
    (g_FORMS : PySem.W.nsIn K mainGlobals "FORMS" = some (some (.ref a_FORMS))) (d_FORMS : K.lookup a_FORMS = some ⟨.type "dict", none, .dict es_FORMS n_FORMS, #[]⟩) (w_FORMS : (a_FORMS == sysModules) = false) (e_FORMS : Ents w.params es_FORMS.toList [("start", v_FORMS_0), ("take", v_FORMS_1), ("done", v_FORMS_2), ("undone", v_FORMS_3)]) (r_FORMS : EntsD c_FORMS [("start", v_FORMS_0), ("take", v_FORMS_1), ("done", v_FORMS_2), ("undone", v_FORMS_3)]) :
    ∃ fd : FuncData, (∀ (s : Shared) (v : Value), BindsTo s fd ⟨[v], []⟩ [("script", v)]) ∧ ∀ base : Heap, K.In base → base.Ns mainGlobals mg → FnOk l.prog w K mg base CX0 13 fa fd ["script"] (spD K m_law) := by
  have e := hfa.symm.trans (PySem.W.mg_of X G x22)
  cases e
  have T : Txt K mg := ⟨PySem.W.mg_none_of X G z_abs, PySem.W.mg_none_of X G z_all, PySem.W.mg_none_of X G z_any, PySem.W.mg_none_of X G z_bool, PySem.W.mg_none_of X G z_enumerate, PySem.W.mg_none_of X G z_int, PySem.W.mg_none_of X G z_isinstance, PySem.W.mg_none_of X G z_len, PySem.W.mg_none_of X G z_list, PySem.W.mg_none_of X G z_min, PySem.W.mg_none_of X G z_range, PySem.W.mg_none_of X G z_str, PySem.W.mg_none_of X G z_tuple, PySem.W.mg_none_of X G z_zip, ⟨_, PySem.W.mg_of X G g_LETTERS⟩, ⟨_, PySem.W.mg_of X G g_MOST_LETTERS⟩, ⟨_, PySem.W.mg_of X G g_FIGURES⟩, ⟨_, PySem.W.mg_of X G g_MOST_FIGURES⟩⟩
  have C_FORMS : CDict K w a_FORMS c_FORMS := cdict_of d_FORMS w_FORMS e_FORMS r_FORMS
  have F0 := fun_mk (st := s_is_name) l0 c0 k0
  have A0 : At K mg "is_name" s_is_name ["text"] := ⟨_, _, F0, PySem.W.mg_of X G x0, F0.binds (ps := ["text"]) fun _ _ _ _ _ _ us hl => match us, hl with | [_], _ => rfl⟩
  have F1 := fun_mk (st := s__is_number) l1 c1 k1
  have A1 : At K mg "_is_number" s__is_number ["word"] := ⟨_, _, F1, PySem.W.mg_of X G x1, F1.binds (ps := ["word"]) fun _ _ _ _ _ _ us hl => match us, hl with | [_], _ => rfl⟩
  have F2 := fun_mk (st := s__plain_parts) l2 c2 k2
  have A2 : At K mg "_plain_parts" s__plain_parts ["words"] := ⟨_, _, F2, PySem.W.mg_of X G x2, F2.binds (ps := ["words"]) fun _ _ _ _ _ _ us hl => match us, hl with | [_], _ => rfl⟩
  have F3 := fun_mk (st := s__kept_parts) l3 c3 k3
  have A3 : At K mg "_kept_parts" s__kept_parts ["words"] := ⟨_, _, F3, PySem.W.mg_of X G x3, F3.binds (ps := ["words"]) fun _ _ _ _ _ _ us hl => match us, hl with | [_], _ => rfl⟩
  have F4 := fun_mk (st := s_read_line) l4 c4 k4
  have A4 : At K mg "read_line" s_read_line ["line"] := ⟨_, _, F4, PySem.W.mg_of X G x4, F4.binds (ps := ["line"]) fun _ _ _ _ _ _ us hl => match us, hl with | [_], _ => rfl⟩
  have F5 := fun_mk (st := s_line_of) l5 c5 k5
  have A5 : At K mg "line_of" s_line_of ["parts"] := ⟨_, _, F5, PySem.W.mg_of X G x5, F5.binds (ps := ["parts"]) fun _ _ _ _ _ _ us hl => match us, hl with | [_], _ => rfl⟩
  have F6 := fun_mk (st := s_kept_text) l6 c6 k6
  have A6 : At K mg "kept_text" s_kept_text ["cases"] := ⟨_, _, F6, PySem.W.mg_of X G x6, F6.binds (ps := ["cases"]) fun _ _ _ _ _ _ us hl => match us, hl with | [_], _ => rfl⟩
  have F7 := fun_mk (st := s__law_same) l7 c7 k7
  have A7 : At K mg "_law_same" s__law_same ["one", "other"] := ⟨_, _, F7, PySem.W.mg_of X G x7, F7.binds (ps := ["one", "other"]) fun _ _ _ _ _ _ us hl => match us, hl with | [_, _], _ => rfl⟩
  have F8 := fun_mk (st := s__law_cell) l8 c8 k8
  have A8 : At K mg "_law_cell" s__law_cell ["script", "k"] := ⟨_, _, F8, PySem.W.mg_of X G x8, F8.binds (ps := ["script", "k"]) fun _ _ _ _ _ _ us hl => match us, hl with | [_, _], _ => rfl⟩
  have F9 := fun_mk (st := s__law_draws) l9 c9 k9
  have A9 : At K mg "_law_draws" s__law_draws ["cell", "count"] := ⟨_, _, F9, PySem.W.mg_of X G x9, F9.binds (ps := ["cell", "count"]) fun _ _ _ _ _ _ us hl => match us, hl with | [_, _], _ => rfl⟩
  have F10 := fun_mk (st := s__law_name) l10 c10 k10
  have A10 : At K mg "_law_name" s__law_name ["number", "salt"] := ⟨_, _, F10, PySem.W.mg_of X G x10, F10.binds (ps := ["number", "salt"]) fun _ _ _ _ _ _ us hl => match us, hl with | [_, _], _ => rfl⟩
  have F11 := fun_mk (st := s__law_integer) l11 c11 k11
  have A11 : At K mg "_law_integer" s__law_integer ["draws"] := ⟨_, _, F11, PySem.W.mg_of X G x11, F11.binds (ps := ["draws"]) fun _ _ _ _ _ _ us hl => match us, hl with | [_], _ => rfl⟩
  have F12 := fun_mk (st := s__law_word) l12 c12 k12
  have A12 : At K mg "_law_word" s__law_word ["draws"] := ⟨_, _, F12, PySem.W.mg_of X G x12, F12.binds (ps := ["draws"]) fun _ _ _ _ _ _ us hl => match us, hl with | [_], _ => rfl⟩
  have F13 := fun_mk (st := s__law_kept) l13 c13 k13
  have A13 : At K mg "_law_kept" s__law_kept ["draws"] := ⟨_, _, F13, PySem.W.mg_of X G x13, F13.binds (ps := ["draws"]) fun _ _ _ _ _ _ us hl => match us, hl with | [_], _ => rfl⟩
  have F14 := fun_mk (st := s__law_parts) l14 c14 k14
  have A14 : At K mg "_law_parts" s__law_parts ["kind", "draws"] := ⟨_, _, F14, PySem.W.mg_of X G x14, F14.binds (ps := ["kind", "draws"]) fun _ _ _ _ _ _ us hl => match us, hl with | [_, _], _ => rfl⟩
  have F15 := fun_mk (st := s__law_line) l15 c15 k15
  have A15 : At K mg "_law_line" s__law_line ["parts"] := ⟨_, _, F15, PySem.W.mg_of X G x15, F15.binds (ps := ["parts"]) fun _ _ _ _ _ _ us hl => match us, hl with | [_], _ => rfl⟩
  have F16 := fun_mk (st := s__law_number) l16 c16 k16
  have A16 : At K mg "_law_number" s__law_number ["word"] := ⟨_, _, F16, PySem.W.mg_of X G x16, F16.binds (ps := ["word"]) fun _ _ _ _ _ _ us hl => match us, hl with | [_], _ => rfl⟩
  have F17 := fun_mk (st := s__law_is_name) l17 c17 k17
  have A17 : At K mg "_law_is_name" s__law_is_name ["word"] := ⟨_, _, F17, PySem.W.mg_of X G x17, F17.binds (ps := ["word"]) fun _ _ _ _ _ _ us hl => match us, hl with | [_], _ => rfl⟩
  have F18 := fun_mk (st := s__law_read_kept) l18 c18 k18
  have A18 : At K mg "_law_read_kept" s__law_read_kept ["words"] := ⟨_, _, F18, PySem.W.mg_of X G x18, F18.binds (ps := ["words"]) fun _ _ _ _ _ _ us hl => match us, hl with | [_], _ => rfl⟩
  have F19 := fun_mk (st := s__law_read) l19 c19 k19
  have A19 : At K mg "_law_read" s__law_read ["line"] := ⟨_, _, F19, PySem.W.mg_of X G x19, F19.binds (ps := ["line"]) fun _ _ _ _ _ _ us hl => match us, hl with | [_], _ => rfl⟩
  have F20 := fun_mk (st := s__law_signs_changed) l20 c20 k20
  have A20 : At K mg "_law_signs_changed" s__law_signs_changed ["line", "draws"] := ⟨_, _, F20, PySem.W.mg_of X G x20, F20.binds (ps := ["line", "draws"]) fun _ _ _ _ _ _ us hl => match us, hl with | [_, _], _ => rfl⟩
  have F21 := fun_mk (st := s__law_words_changed) l21 c21 k21
  have A21 : At K mg "_law_words_changed" s__law_words_changed ["line", "draws"] := ⟨_, _, F21, PySem.W.mg_of X G x21, F21.binds (ps := ["line", "draws"]) fun _ _ _ _ _ _ us hl => match us, hl with | [_, _], _ => rfl⟩
  have F22 := fun_mk (st := s_law) l22 c22 k22
  refine ⟨PySem.W.fnOf "law" "law" (defArgs s_law) (defBody s_law) (defScope s_law) .none kV22 dc22 pm22 an22 cd22 ct22, fun s v => .of_eq rfl, fun base _ _ => ?_⟩
  have h_is_name := has_is_name (P := l.prog) (w := w) (base := base) T A0
  have h__is_number := has__is_number (P := l.prog) (w := w) (base := base) T A1
  have h__plain_parts := has__plain_parts (P := l.prog) (w := w) (base := base) T A2 h__is_number h_is_name C_FORMS (PySem.W.mg_of X G g_FORMS)
  have h__kept_parts := has__kept_parts (P := l.prog) (w := w) (base := base) T A3 h__is_number h_is_name
  have h_read_line := has_read_line (P := l.prog) (w := w) (base := base) T A4 h__kept_parts h__plain_parts C_FORMS (PySem.W.mg_of X G g_FORMS)
  have h_line_of := has_line_of (P := l.prog) (w := w) (base := base) T A5
  have h_kept_text := has_kept_text (P := l.prog) (w := w) (base := base) T A6 h_line_of
  have h__law_same := has__law_same (P := l.prog) (w := w) (base := base) T A7 12
  have h__law_cell := has__law_cell (P := l.prog) (w := w) (base := base) T A8
  have h__law_draws := has__law_draws (P := l.prog) (w := w) (base := base) T A9
  have h__law_name := has__law_name (P := l.prog) (w := w) (base := base) T A10
  have h__law_integer := has__law_integer (P := l.prog) (w := w) (base := base) T A11
  have h__law_word := has__law_word (P := l.prog) (w := w) (base := base) T A12 h__law_name
  have h__law_kept := has__law_kept (P := l.prog) (w := w) (base := base) T A13 h__law_integer h__law_word
  have h__law_parts := has__law_parts (P := l.prog) (w := w) (base := base) T A14 h__law_integer h__law_word h__law_kept
  have h__law_line := has__law_line (P := l.prog) (w := w) (base := base) T A15
  have h__law_number := has__law_number (P := l.prog) (w := w) (base := base) T A16
  have h__law_is_name := has__law_is_name (P := l.prog) (w := w) (base := base) T A17
  have h__law_read_kept := has__law_read_kept (P := l.prog) (w := w) (base := base) T A18 h__law_number h__law_is_name
  have h__law_read := has__law_read (P := l.prog) (w := w) (base := base) T A19 h__law_read_kept h__law_number h__law_is_name
  have h__law_signs_changed := has__law_signs_changed (P := l.prog) (w := w) (base := base) T A20
  have h__law_words_changed := has__law_words_changed (P := l.prog) (w := w) (base := base) T A21
  exact law_ok T F22 h__law_cell h__law_draws h__law_parts h__law_line h_line_of h__law_same h_read_line h__law_signs_changed h__law_words_changed h__law_read h__law_kept h_kept_text
theorem walk {l : PySem.W.OpenLaw} {q : Program} {loose : List Str} {XP : (Str → Option Value) → Heap → Prop} {YP : World → Heap → Prop} {d : DefRec} {K : Params → PySem.W.Frag} (hn : l.most = some 63) (hdf : d.params.defaults = [])
    (hlaw : ∀ ns : List Int, ns.length ≤ 63 → m_law [.rol (ns.map D.int)] = .ok (.bl true))
    (hY : ∀ (w : World) (h : Heap), YP w h → (K w.params).In h)
    (F : ∀ (w : World) (mg : Str → Option Value) (fa : Addr) (h : Heap), (K w.params).In h → h.Ns mainGlobals mg → mg d.name = some (.ref fa) →
      ∃ fd : FuncData, (∀ (s : Shared) (u : Value), BindsTo s fd ⟨[u], []⟩ [("script", u)]) ∧ ∀ base : Heap, (K w.params).In base → base.Ns mainGlobals mg → FnOk l.prog w (K w.params) mg base CX0 13 fa fd ["script"] (spD (K w.params) m_law)) :
    PySem.W.WalkO q loose XP YP l.row.toRowW d [] (fun f vs => PySem.call f vs) :=
  L2.walk_of (n := 63) (k := 13) (x := "script") (CX := fun _ => CX0) (sp := fun w => spD (K w.params) m_law) hn (by decide) hdf ⟨rfl, by decide, by decide⟩ hY F
    (fun w H a ns hl _ hS => ⟨H, [.rol (ns.map D.int)], .bl true, Same.refl _, .cons (rp_rol.mpr ⟨a, _, rfl, hS, rps_of_ints ns⟩) .nil, hlaw ns hl, fun v F' H' _ _ _ _ r => by rw [rp_bl.mp r]⟩) fun _ _ _ _ _ z => z
end K32
open PySem PySem.W PyProof.Rows
set_option maxRecDepth 100000 in
set_option maxHeartbeats 0 in
theorem PySem.Challenge.cw_partychoices_k32_lines_of_the_log_holds : PySem.Challenge.rw_partychoices_k32_lines_of_the_log.Holds := by
  w_on; o_law; k_head; (case hw => w_witness2)
  k_fill
  refine K32.walk (l := PySem.Challenge.rw_partychoices_k32_lines_of_the_log) rfl rfl (fun ns h => K32.law_true ns h) (fun w h Y => PySem.W.kIn_of Y) ?F
  case F =>
    intro w mg fa h KX G hmg
    refine' K32.all_mk KX G hmg ?x0 ?l0 ?c0 ?k0 ?x1 ?l1 ?c1 ?k1 ?x2 ?l2 ?c2 ?k2 ?x3 ?l3 ?c3 ?k3 ?x4 ?l4 ?c4 ?k4 ?x5 ?l5 ?c5 ?k5 ?x6 ?l6 ?c6 ?k6 ?x7 ?l7 ?c7 ?k7 ?x8 ?l8 ?c8 ?k8 ?x9 ?l9 ?c9 ?k9 ?x10 ?l10 ?c10 ?k10 ?x11 ?l11 ?c11 ?k11 ?x12 ?l12 ?c12 ?k12 ?x13 ?l13 ?c13 ?k13 ?x14 ?l14 ?c14 ?k14 ?x15 ?l15 ?c15 ?k15 ?x16 ?l16 ?c16 ?k16 ?x17 ?l17 ?c17 ?k17 ?x18 ?l18 ?c18 ?k18 ?x19 ?l19 ?c19 ?k19 ?x20 ?l20 ?c20 ?k20 ?x21 ?l21 ?c21 ?k21 ?x22 ?l22 ?c22 ?k22 ?z_abs ?z_all ?z_any ?z_bool ?z_enumerate ?z_int ?z_isinstance ?z_len ?z_list ?z_min ?z_range ?z_str ?z_tuple ?z_zip ?g_LETTERS ?g_MOST_LETTERS ?g_FIGURES ?g_MOST_FIGURES ?g_FORMS ?d_FORMS ?w_FORMS ?e_FORMS ?r_FORMS
    (case x0 => k_is)
    (case l0 => k_is)
    (case c0 => k_is)
    (case k0 => k_is)
    (case x1 => k_is)
    (case l1 => k_is)
    (case c1 => k_is)
    (case k1 => k_is)
    (case x2 => k_is)
    (case l2 => k_is)
    (case c2 => k_is)
    (case k2 => k_is)
    (case x3 => k_is)
    (case l3 => k_is)
    (case c3 => k_is)
    (case k3 => k_is)
    (case x4 => k_is)
    (case l4 => k_is)
    (case c4 => k_is)
    (case k4 => k_is)
    (case x5 => k_is)
    (case l5 => k_is)
    (case c5 => k_is)
    (case k5 => k_is)
    (case x6 => k_is)
    (case l6 => k_is)
    (case c6 => k_is)
    (case k6 => k_is)
    (case x7 => k_is)
    (case l7 => k_is)
    (case c7 => k_is)
    (case k7 => k_is)
    (case x8 => k_is)
    (case l8 => k_is)
    (case c8 => k_is)
    (case k8 => k_is)
    (case x9 => k_is)
    (case l9 => k_is)
    (case c9 => k_is)
    (case k9 => k_is)
    (case x10 => k_is)
    (case l10 => k_is)
    (case c10 => k_is)
    (case k10 => k_is)
    (case x11 => k_is)
    (case l11 => k_is)
    (case c11 => k_is)
    (case k11 => k_is)
    (case x12 => k_is)
    (case l12 => k_is)
    (case c12 => k_is)
    (case k12 => k_is)
    (case x13 => k_is)
    (case l13 => k_is)
    (case c13 => k_is)
    (case k13 => k_is)
    (case x14 => k_is)
    (case l14 => k_is)
    (case c14 => k_is)
    (case k14 => k_is)
    (case x15 => k_is)
    (case l15 => k_is)
    (case c15 => k_is)
    (case k15 => k_is)
    (case x16 => k_is)
    (case l16 => k_is)
    (case c16 => k_is)
    (case k16 => k_is)
    (case x17 => k_is)
    (case l17 => k_is)
    (case c17 => k_is)
    (case k17 => k_is)
    (case x18 => k_is)
    (case l18 => k_is)
    (case c18 => k_is)
    (case k18 => k_is)
    (case x19 => k_is)
    (case l19 => k_is)
    (case c19 => k_is)
    (case k19 => k_is)
    (case x20 => k_is)
    (case l20 => k_is)
    (case c20 => k_is)
    (case k20 => k_is)
    (case x21 => k_is)
    (case l21 => k_is)
    (case c21 => k_is)
    (case k21 => k_is)
    (case x22 => k_is)
    (case l22 => k_is)
    (case c22 => k_is)
    (case k22 => k_is)
    (case z_abs => k_is)
    (case z_all => k_is)
    (case z_any => k_is)
    (case z_bool => k_is)
    (case z_enumerate => k_is)
    (case z_int => k_is)
    (case z_isinstance => k_is)
    (case z_len => k_is)
    (case z_list => k_is)
    (case z_min => k_is)
    (case z_range => k_is)
    (case z_str => k_is)
    (case z_tuple => k_is)
    (case z_zip => k_is)
    (case g_LETTERS => k_is)
    (case g_MOST_LETTERS => k_is)
    (case g_FIGURES => k_is)
    (case g_MOST_FIGURES => k_is)
    (case g_FORMS => k_is)
    (case d_FORMS => k_is)
    (case w_FORMS => decide)
    (case e_FORMS => exact ⟨⟨_, rfl⟩, rfl, rfl, ⟨_, rfl⟩, rfl, rfl, ⟨_, rfl⟩, rfl, rfl, ⟨_, rfl⟩, rfl, rfl,  trivial⟩)
    (case r_FORMS => exact ⟨rfl, ⟨.str "n", ⟨_, rfl⟩, fun _ _ => DD.rp_str.mpr rfl⟩, rfl, ⟨.str "nwnnwn", ⟨_, rfl⟩, fun _ _ => DD.rp_str.mpr rfl⟩, rfl, ⟨.str "nwnnw", ⟨_, rfl⟩, fun _ _ => DD.rp_str.mpr rfl⟩, rfl, ⟨.str "nw", ⟨_, rfl⟩, fun _ _ => DD.rp_str.mpr rfl⟩, trivial⟩)
