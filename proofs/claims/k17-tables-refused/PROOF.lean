import PyProof.Rows.All
import Wide.All
import OpenK.AllK
import Wide.FinOn
import HandS.ForMost
import HandS.TupAny
import HandS.More
import HandS.FStr
import HandS.IsInst
import HandS.RaiseMore
import HandS.Style
import HandS.WrittenGet
import PyProof.Rows.StrRev
import KE.GoesNew
import KE.GoesMore
import KE.GoesZip
import KE.GoesEnum
import HandS.Exc
import HandS.WordsExc
import HandS.ExcOwn
import HandS.ExcInit
import KE.KExcSuper
import HandS.TryMany
import HandS.ExcField
import HandS.ExcIs
import KE.KExcIs
import PyProof.Rows.MatchSeqLen
import HandS.DictComp
import HandS.Conv
import HandS.Deep
import HandS.Flt
import PySem.Challenge.RW_partychoices_k17_tables_refused
set_option Elab.async false
set_option linter.all false
set_option maxRecDepth 100000
set_option maxHeartbeats 2000000
/-! DL: data without addresses over the hand layer. A def's body is read as a plain function from data to data. -/
namespace DD
open PySem PySem.Spec PyProof.Rows L2

/-! ### data -/
inductive D where
  | non | bl (b : Bool) | int (i : Int) | str (s : Str)
  | tup (xs : List D) | lst (xs : List D) | rol (xs : List D) | dic (ks : List Key) (xs : List D) | ref (n : Nat)
  | ktup (xs : List D) | clr (C : Addr) | ty (T : String) | exn (C : Addr) (ns : List Str) (ds : List D)
/-- at a: an exception of the class at C, its dict at d -/
def exq (a C : Addr) (d : Option Addr) : HO := .ext fun h => ∃ oe : Obj, h.get? a = some oe ∧ oe.cls = .ref C ∧ oe.dict = d ∧ ∃ vs, oe.data = .fields vs
/-- where the store's objects stand -/
class Iota where
  at_ : List Addr
variable [Iota]

mutual
def Rp (K : PySem.W.Frag) (H : Hp) : V → D → Prop
  | v, .non => v = .non
  | v, .bl b => v = .bl b
  | v, .int i => v = .int i
  | v, .str s => v = .str s
  | v, .tup ds => ∃ a xs, v = .ref a ∧ H a = some (.tup xs) ∧ Rps K H xs ds
  | v, .ktup ds => ∃ a xs, v = .ref a ∧ SqT K H a xs ∧ Rps K H xs ds
  | v, .lst ds => ∃ a xs, v = .ref a ∧ H a = some (.lst xs) ∧ Rps K H xs ds
  | v, .rol ds => ∃ a xs, v = .ref a ∧ SqL K H a xs ∧ Rps K H xs ds
  | v, .dic ks ds => ∃ a xs, v = .ref a ∧ H a = some (.dK (ks.zip xs)) ∧ ks.length = xs.length ∧ Rps K H xs ds
  | v, .ref n => ∃ a, v = .ref a ∧ Iota.at_[n]? = some a
  | v, .clr C => v = .ref C
  | v, .ty T => v = .ty T
  | v, .exn C ns ds => ∃ a, v = .ref a ∧ ((∃ d xs, H a = some (exq a C (some d)) ∧ H d = some (.xd (ns.zip xs)) ∧ ns.length = xs.length ∧ Rps K H xs ds) ∨ (H a = some (exq a C none) ∧ ns = [] ∧ ds = []))
def Rps (K : PySem.W.Frag) (H : Hp) : List V → List D → Prop
  | xs, [] => xs = []
  | xs, d :: ds => ∃ y ys, xs = y :: ys ∧ Rp K H y d ∧ Rps K H ys ds
end
theorem Same.kseqT {K : PySem.W.Frag} {H H' : Hp} {a : Addr} {xs : List V} (e : Same H H') (h : SqT K H a xs) : SqT K H' a xs := by
  rcases h with (h | ⟨o, h⟩) | h
  · exact .inl (.inl (e _ _ h))
  · exact .inl (.inr ⟨o, e _ _ h⟩)
  · exact .inr h
theorem Same.seqT {K : PySem.W.Frag} {H H' : Hp} {a : Addr} {xs : List V} (e : Same H H') (h : H a = some (.tup xs)) : SqT K H' a xs := SqT.of (e _ _ h)
section
variable {K : PySem.W.Frag} {H H' : Hp}
mutual
theorem Rp.mono (s : Same H H') : ∀ {v : V} {d : D}, Rp K H v d → Rp K H' v d
  | v, .non, h => by simpa only [Rp] using h
  | v, .bl b, h => by simpa only [Rp] using h
  | v, .int i, h => by simpa only [Rp] using h
  | v, .str i, h => by simpa only [Rp] using h
  | v, .tup ds, h => by
    simp only [Rp] at h ⊢
    obtain ⟨a, xs, e, q, r⟩ := h
    exact ⟨a, xs, e, s _ _ q, Rps.mono s r⟩
  | v, .ktup ds, h => by
    simp only [Rp] at h ⊢
    obtain ⟨a, xs, e, q, r⟩ := h
    exact ⟨a, xs, e, Same.kseqT s q, Rps.mono s r⟩
  | v, .lst ds, h => by
    simp only [Rp] at h ⊢
    obtain ⟨a, xs, e, q, r⟩ := h
    exact ⟨a, xs, e, s _ _ q, Rps.mono s r⟩
  | v, .rol ds, h => by
    simp only [Rp] at h ⊢
    obtain ⟨a, xs, e, q, r⟩ := h
    exact ⟨a, xs, e, s.seq q, Rps.mono s r⟩
  | v, .dic ks ds, h => by
    simp only [Rp] at h ⊢
    obtain ⟨a, xs, e, q, l, r⟩ := h
    exact ⟨a, xs, e, s _ _ q, l, Rps.mono s r⟩
  | v, .ref n, h => by simpa only [Rp] using h
  | v, .clr w, h => by simpa only [Rp] using h
  | v, .ty w, h => by simpa only [Rp] using h
  | v, .exn C ns ds, h => by
    simp only [Rp] at h ⊢
    obtain ⟨a, e, ⟨d, xs, q, q2, l, r⟩ | ⟨q, n1, n2⟩⟩ := h
    · exact ⟨a, e, .inl ⟨d, xs, s _ _ q, s _ _ q2, l, Rps.mono s r⟩⟩
    · exact ⟨a, e, .inr ⟨s _ _ q, n1, n2⟩⟩
theorem Rps.mono (s : Same H H') : ∀ {xs : List V} {ds : List D}, Rps K H xs ds → Rps K H' xs ds
  | xs, [], h => by simpa only [Rps] using h
  | xs, d :: ds, h => by
    simp only [Rps] at h ⊢
    obtain ⟨y, ys, e, q, r⟩ := h
    exact ⟨y, ys, e, Rp.mono s q, Rps.mono s r⟩
end
theorem Rps.nil : Rps K H [] [] := by simp only [Rps]
theorem Rps.cons {y : V} {ys : List V} {d : D} {ds : List D} (a : Rp K H y d) (b : Rps K H ys ds) : Rps K H (y :: ys) (d :: ds) := by
  simp only [Rps]; exact ⟨y, ys, rfl, a, b⟩
theorem Rps.of_nil {xs : List V} (h : Rps K H xs []) : xs = [] := by simpa only [Rps] using h
theorem Rps.of_cons {xs : List V} {d : D} {ds : List D} (h : Rps K H xs (d :: ds)) : ∃ y ys, xs = y :: ys ∧ Rp K H y d ∧ Rps K H ys ds := by simpa only [Rps] using h
theorem Rps.length : ∀ {xs : List V} {ds : List D}, Rps K H xs ds → xs.length = ds.length
  | xs, [], h => by rw [h.of_nil]; rfl
  | xs, d :: ds, h => by
    obtain ⟨y, ys, rfl, a, b⟩ := h.of_cons
    simp [Rps.length b]
theorem Rps.get : ∀ {xs : List V} {ds : List D} {i : Nat} {d : D}, Rps K H xs ds → ds[i]? = some d → ∃ v, xs[i]? = some v ∧ Rp K H v d
  | xs, [], i, d, h, e => by simp at e
  | xs, d :: ds, 0, d', h, e => by
    obtain ⟨y, ys, rfl, a, b⟩ := h.of_cons
    simp at e; subst e
    exact ⟨y, rfl, a⟩
  | xs, d :: ds, i + 1, d', h, e => by
    obtain ⟨y, ys, rfl, a, b⟩ := h.of_cons
    simpa using Rps.get (i := i) b (by simpa using e)
theorem Rps.getV {xs : List V} {ds : List D} {i : Nat} {v : V} (h : Rps K H xs ds) (e : xs[i]? = some v) : ∃ d, ds[i]? = some d ∧ Rp K H v d := by
  have hl := h.length
  have hi : i < ds.length := by rw [← hl]; exact (List.getElem?_eq_some_iff.mp e).1
  obtain ⟨v', e', r⟩ := h.get (List.getElem?_eq_getElem hi)
  rw [e] at e'; cases e'
  exact ⟨_, List.getElem?_eq_getElem hi, r⟩
theorem Rps.of : ∀ {xs : List V} {ds : List D}, xs.length = ds.length → (∀ (i : Nat) v d, xs[i]? = some v → ds[i]? = some d → Rp K H v d) → Rps K H xs ds
  | [], [], _, _ => .nil
  | [], _ :: _, l, _ => by simp at l
  | _ :: _, [], l, _ => by simp at l
  | x :: xs, d :: ds, l, h => .cons (h 0 x d rfl rfl) (Rps.of (by simpa using l) fun i v d' a b => h (i + 1) v d' (by simpa using a) (by simpa using b))
theorem Rps.append {xs ys : List V} {ds es : List D} (a : Rps K H xs ds) (b : Rps K H ys es) : Rps K H (xs ++ ys) (ds ++ es) := by
  refine .of (by simp [a.length, b.length]) fun i v d h1 h2 => ?_
  have l := a.length
  by_cases hi : i < xs.length
  · rw [List.getElem?_append_left hi] at h1
    rw [List.getElem?_append_left (by omega)] at h2
    obtain ⟨d', e, r⟩ := a.getV h1
    rw [h2] at e; cases e; exact r
  · rw [List.getElem?_append_right (by omega)] at h1
    rw [List.getElem?_append_right (by omega)] at h2
    rw [← l] at h2
    obtain ⟨d', e, r⟩ := b.getV h1
    rw [h2] at e; cases e; exact r
theorem Rps.take {xs : List V} {ds : List D} (n : Nat) (a : Rps K H xs ds) : Rps K H (xs.take n) (ds.take n) := by
  refine .of (by simp [a.length]) fun i v d h1 h2 => ?_
  rw [List.getElem?_take] at h1 h2
  split at h1
  · rename_i h
    rw [if_pos h] at h2
    obtain ⟨d', e, r⟩ := a.getV h1
    rw [h2] at e; cases e; exact r
  · cases h1
theorem Rps.drop {xs : List V} {ds : List D} (n : Nat) (a : Rps K H xs ds) : Rps K H (xs.drop n) (ds.drop n) := by
  refine .of (by simp [a.length]) fun i v d h1 h2 => ?_
  rw [List.getElem?_drop] at h1 h2
  obtain ⟨d', e, r⟩ := a.getV h1
  rw [h2] at e; cases e; exact r
theorem Rps.set {xs : List V} {ds : List D} {v : V} {d : D} (n : Nat) (a : Rps K H xs ds) (r : Rp K H v d) : Rps K H (xs.set n v) (ds.set n d) := by
  have l := a.length
  refine .of (by simp [l]) fun i v' d' h1 h2 => ?_
  by_cases hi : n = i
  · subst hi
    by_cases hn : n < xs.length
    · rw [List.getElem?_set_self hn] at h1
      rw [List.getElem?_set_self (by omega)] at h2
      cases h1; cases h2; exact r
    · rw [List.getElem?_eq_none (by simpa using hn)] at h1; cases h1
  · rw [List.getElem?_set_ne hi] at h1 h2
    obtain ⟨d'', e, q⟩ := a.getV h1
    rw [h2] at e; cases e; exact q
theorem Rps.one {v : V} {d : D} (r : Rp K H v d) : Rps K H [v] [d] := .cons r .nil
theorem rp_non {v : V} : Rp K H v .non ↔ v = .non := by simp only [Rp]
theorem rp_bl {v : V} {b : Bool} : Rp K H v (.bl b) ↔ v = .bl b := by simp only [Rp]
theorem rp_int {v : V} {b : Int} : Rp K H v (.int b) ↔ v = .int b := by simp only [Rp]
theorem rp_str {v : V} {b : Str} : Rp K H v (.str b) ↔ v = .str b := by simp only [Rp]
theorem rp_tup {v : V} {ds : List D} : Rp K H v (.tup ds) ↔ ∃ a xs, v = .ref a ∧ H a = some (.tup xs) ∧ Rps K H xs ds := by simp only [Rp]
theorem rp_ktup {v : V} {ds : List D} : Rp K H v (.ktup ds) ↔ ∃ a xs, v = .ref a ∧ SqT K H a xs ∧ Rps K H xs ds := by simp only [Rp]
theorem rp_lst {v : V} {ds : List D} : Rp K H v (.lst ds) ↔ ∃ a xs, v = .ref a ∧ H a = some (.lst xs) ∧ Rps K H xs ds := by simp only [Rp]
theorem rp_rol {v : V} {ds : List D} : Rp K H v (.rol ds) ↔ ∃ a xs, v = .ref a ∧ SqL K H a xs ∧ Rps K H xs ds := by simp only [Rp]
theorem rp_dic {v : V} {ks : List Key} {ds : List D} : Rp K H v (.dic ks ds) ↔ ∃ a xs, v = .ref a ∧ H a = some (.dK (ks.zip xs)) ∧ ks.length = xs.length ∧ Rps K H xs ds := by simp only [Rp]
theorem rp_clr {v : V} {C : Addr} : Rp K H v (.clr C) ↔ v = .ref C := by simp only [Rp]
theorem rp_ty {v : V} {T : String} : Rp K H v (.ty T) ↔ v = .ty T := by simp only [Rp]
theorem rp_exn {v : V} {C : Addr} {ns : List Str} {ds : List D} : Rp K H v (.exn C ns ds) ↔ ∃ a, v = .ref a ∧ ((∃ d xs, H a = some (exq a C (some d)) ∧ H d = some (.xd (ns.zip xs)) ∧ ns.length = xs.length ∧ Rps K H xs ds) ∨ (H a = some (exq a C none) ∧ ns = [] ∧ ds = [])) := by simp only [Rp]
theorem rp_ref {v : V} {n : Nat} : Rp K H v (.ref n) ↔ ∃ a, v = .ref a ∧ Iota.at_[n]? = some a := by simp only [Rp]
end

/-! ### answers -/
structure Exn where
  cls : Str
  fs : List (Str × D)
inductive R (α : Type) where
  | ok (a : α) | err (x : Exn) | bad
def R.bind {α β : Type} : R α → (α → R β) → R β
  | .ok a, f => f a
  | .err x, _ => .err x
  | .bad, _ => .bad
instance : Monad R where
  pure := R.ok
  bind := R.bind
@[simp] theorem R.ok_bind {α β : Type} (a : α) (f : α → R β) : (R.ok a >>= f) = f a := rfl
@[simp] theorem R.bad_bind {α β : Type} (f : α → R β) : ((R.bad : R α) >>= f) = .bad := rfl
@[simp] theorem R.err_bind {α β : Type} (x : Exn) (f : α → R β) : ((R.err x : R α) >>= f) = .err x := rfl
@[simp] theorem R.pure_ok {α : Type} (a : α) : (pure a : R α) = .ok a := rfl
theorem R.of_bind {α β : Type} {x : R α} {f : α → R β} {b : β} (h : (x >>= f) = .ok b) : ∃ a, x = .ok a ∧ f a = .ok b := by
  cases x with
  | ok a => exact ⟨a, rfl, h⟩
  | err e => cases h
  | bad => cases h
def guardR (b : Bool) : R Unit := if b then .ok () else .bad
theorem of_guard {b : Bool} {u : Unit} (h : guardR b = .ok u) : b = true := by
  unfold guardR at h
  split at h
  · assumption
  · cases h
@[simp] theorem guardR_true : guardR true = .ok () := rfl

/-! ### slots -/
inductive Sl where
  | un | fz (d : D) | ow (ds : List D)
abbrev En := List Sl
def SlOk (K : PySem.W.Frag) (W F H : Hp) (o : Option V) : Sl → Prop
  | .un => True
  | .fz d => ∃ v, o = some v ∧ Rp K F v d
  | .ow ds => ∃ p vs, o = some (.ref p) ∧ H p = some (.lst vs) ∧ F p = none ∧ W p = none ∧ Rps K F vs ds
/-- no tuple: a tuple never changes, whosoever it is -/
def NT (o : HO) : Prop := ∀ xs, o ≠ .tup xs
theorem NT.lst {xs : List V} : NT (.lst xs) := fun _ z => nomatch z
structure OkB (W F0 F H : Hp) : Prop where
  sub : Same F H
  wld : Same W H
  ext : Same F0 F
  new : ∀ b o, NT o → W b = some o → F0 b = none → F b = none
structure Ok (K : PySem.W.Frag) (W F0 : Hp) (σ : L2.St) (ρ : En) (F H : Hp) : Prop extends OkB W F0 F H where
  len : σ.length = ρ.length
  slots : ∀ (i : Nat) o s, σ[i]? = some o → ρ[i]? = some s → SlOk K W F H o s
  dist : ∀ (i j : Nat) (p : Addr) ds ds', ρ[i]? = some (.ow ds) → ρ[j]? = some (.ow ds') → σ[i]? = some (some (.ref p)) → σ[j]? = some (some (.ref p)) → i = j
section
variable {K : PySem.W.Frag} {W F0 F F' H H' : Hp} {σ : L2.St} {ρ : En}
theorem OkB.step (o : OkB W F0 F H) (a : Same F F') (b : Same H H') (c : Same F' H') (n : ∀ b o, NT o → H b = some o → F b = none → F' b = none) : OkB W F0 F' H' :=
  ⟨c, o.wld.trans b, o.ext.trans a, fun x y nt e1 e2 => n x y nt (o.wld x y e1) (o.new x y nt e1 e2)⟩
/-- the heap grows -/
theorem Ok.step (o : Ok K W F0 σ ρ F H) (a : Same F F') (b : Same H H') (c : Same F' H') (n : ∀ b o, NT o → H b = some o → F b = none → F' b = none) : Ok K W F0 σ ρ F' H' := by
  refine ⟨o.toOkB.step a b c n, o.len, fun i x s h1 h2 => ?_, o.dist⟩
  have q := o.slots i x s h1 h2
  cases s with
  | un => trivial
  | fz d =>
    obtain ⟨v, e, r⟩ := q
    exact ⟨v, e, r.mono a⟩
  | ow ds =>
    obtain ⟨p, vs, e, h, f, w, r⟩ := q
    exact ⟨p, vs, e, b _ _ h, n _ _ NT.lst h f, w, r.mono a⟩
theorem same_upd {p : Addr} {u : HO} (h : H p = none) : Same H (upd H p u) := fun b x e => by rw [upd_ne (ne_of_none e h)]; exact e
theorem Ok.free (o : Ok K W F0 σ ρ F H) {p : Addr} (h : H p = none) : F p = none ∧ W p = none := ⟨Same.free o.sub h, Same.free o.wld h⟩
/-- a new frozen object -/
theorem Ok.push (o : Ok K W F0 σ ρ F H) {p : Addr} (u : HO) (h : H p = none) : Ok K W F0 σ ρ (upd F p u) (upd H p u) := by
  have hf := (o.free h).1
  refine o.step (same_upd hf) (same_upd h) (fun b x e => ?_) fun b x nt e f => ?_
  · by_cases hb : b = p
    · subst hb; rw [upd_same] at e ⊢; exact e
    · rw [upd_ne hb] at e ⊢; exact o.sub b x e
  · rw [upd_ne (ne_of_none e h)]; exact f
/-- a new object that is nobody's yet -/
theorem Ok.pushH (o : Ok K W F0 σ ρ F H) {p : Addr} (u : HO) (h : H p = none) : Ok K W F0 σ ρ F (upd H p u) := by
  have hf := (o.free h).1
  refine o.step (Same.refl _) (same_upd h) (fun b x e => ?_) fun b x nt e f => f
  rw [upd_ne (ne_of_none e hf)]; exact o.sub b x e
/-- no owned slot is at p -/
def Apart (σ : L2.St) (ρ : En) (p : Addr) : Prop := ∀ (i : Nat) ds, ρ[i]? = some (.ow ds) → σ[i]? ≠ some (some (.ref p))
theorem Ok.apart (o : Ok K W F0 σ ρ F H) {p : Addr} (h : H p = none) : Apart σ ρ p := fun i ds e q => by
  obtain ⟨p', vs, e', h', _⟩ := o.slots i _ _ q e
  cases e'
  rw [h] at h'; cases h'
/-- an object that is nobody's is frozen -/
theorem Ok.freezeAt (o : Ok K W F0 σ ρ F H) {p : Addr} {u : HO} (h : H p = some u) (hf : F p = none) (hw : W p = none) (ap : Apart σ ρ p) : Ok K W F0 σ ρ (upd F p u) H := by
  have s : Same F (upd F p u) := same_upd hf
  refine ⟨⟨fun b x e => ?_, o.wld, o.ext.trans s, fun b x nt e1 e2 => ?_⟩, o.len, fun i x sl h1 h2 => ?_, o.dist⟩
  · by_cases hb : b = p
    · subst hb; rw [upd_same] at e; cases e; exact h
    · rw [upd_ne hb] at e; exact o.sub b x e
  · rw [upd_ne (ne_of_none e1 hw)]; exact o.new b x nt e1 e2
  · have q := o.slots i x sl h1 h2
    cases sl with
    | un => trivial
    | fz d =>
      obtain ⟨v, e, r⟩ := q
      exact ⟨v, e, r.mono s⟩
    | ow ds =>
      obtain ⟨p', vs, e, h', f, w, r⟩ := q
      refine ⟨p', vs, e, h', ?_, w, r.mono s⟩
      rw [upd_ne (fun z => ap i ds h2 (by rw [h1, e, z]))]
      exact f
/-- a tuple is frozen, whosoever it is -/
theorem Ok.freezeT (o : Ok K W F0 σ ρ F H) {p : Addr} {xs : List V} (h : H p = some (.tup xs)) : ∃ F', Same F F' ∧ Ok K W F0 σ ρ F' H ∧ F' p = some (.tup xs) := by
  cases hf : F p with
  | some u =>
    have := o.sub _ _ hf
    rw [h] at this
    cases this
    exact ⟨F, Same.refl _, o, hf⟩
  | none =>
    have s : Same F (upd F p (.tup xs)) := same_upd hf
    refine ⟨_, s, ⟨⟨fun b x e => ?_, o.wld, o.ext.trans s, fun b x nt e1 e2 => ?_⟩, o.len, fun i x sl h1 h2 => ?_, o.dist⟩, upd_same⟩
    · by_cases hb : b = p
      · subst hb; rw [upd_same] at e; cases e; exact h
      · rw [upd_ne hb] at e; exact o.sub b x e
    · have hb : b ≠ p := fun z => by
        subst z
        have := o.wld b x e1
        rw [h] at this
        cases this
        exact nt _ rfl
      rw [upd_ne hb]
      exact o.new b x nt e1 e2
    · have q := o.slots i x sl h1 h2
      cases sl with
      | un => trivial
      | fz d =>
        obtain ⟨v, e, r⟩ := q
        exact ⟨v, e, r.mono s⟩
      | ow ds =>
        obtain ⟨p', vs, e, h', f, w, r⟩ := q
        refine ⟨p', vs, e, h', ?_, w, r.mono s⟩
        rw [upd_ne (fun z => by rw [z, h] at h'; cases h')]
        exact f
theorem Ok.rebase {F1 H1 : Hp} (o : Ok K W F1 σ ρ F H) (o1 : OkB W F0 F1 H1) : Ok K W F0 σ ρ F H :=
  ⟨⟨o.sub, o.wld, o1.ext.trans o.ext, fun b x nt e1 e2 => o.new b x nt e1 (o1.new b x nt e1 e2)⟩, o.len, o.slots, o.dist⟩
theorem OkB.rebase {F1 H1 : Hp} (o : OkB W F1 F H) (o1 : OkB W F0 F1 H1) : OkB W F0 F H :=
  ⟨o.sub, o.wld, o1.ext.trans o.ext, fun b x nt e1 e2 => o.new b x nt e1 (o1.new b x nt e1 e2)⟩
theorem Ok.self (o : Ok K W F0 σ ρ F H) : Ok K W F σ ρ F H :=
  ⟨⟨o.sub, o.wld, Same.refl _, fun b x nt e1 e2 => e2⟩, o.len, o.slots, o.dist⟩
/-- a slot is written with frozen data -/
theorem Ok.setF (o : Ok K W F0 σ ρ F H) (i : Nat) {v : V} {d : D} (r : Rp K F v d) : Ok K W F0 (σ.set i (some v)) (ρ.set i (.fz d)) F H := by
  refine ⟨o.toOkB, by simp [o.len], fun j x s h1 h2 => ?_, fun j k p ds ds' h1 h2 h3 h4 => ?_⟩
  · by_cases hj : i = j
    · subst hj
      have hi : i < (σ.set i (some v)).length := (List.getElem?_eq_some_iff.mp h1).1
      have hi' : i < (ρ.set i (.fz d)).length := (List.getElem?_eq_some_iff.mp h2).1
      rw [List.getElem?_set_self (by simpa using hi)] at h1
      rw [List.getElem?_set_self (by simpa using hi')] at h2
      cases h1; cases h2
      exact ⟨v, rfl, r⟩
    · rw [List.getElem?_set_ne hj] at h1 h2
      exact o.slots j x s h1 h2
  · have hj : i ≠ j := fun z => by
      subst z
      have hi' : i < (ρ.set i (.fz d)).length := (List.getElem?_eq_some_iff.mp h1).1
      rw [List.getElem?_set_self (by simpa using hi')] at h1; cases h1
    have hk : i ≠ k := fun z => by
      subst z
      have hi' : i < (ρ.set i (.fz d)).length := (List.getElem?_eq_some_iff.mp h2).1
      rw [List.getElem?_set_self (by simpa using hi')] at h2; cases h2
    rw [List.getElem?_set_ne hj] at h1 h3
    rw [List.getElem?_set_ne hk] at h2 h4
    exact o.dist j k p ds ds' h1 h2 h3 h4
/-- a slot is written with a list of its own -/
theorem Ok.setO (o : Ok K W F0 σ ρ F H) (i : Nat) {p : Addr} {vs : List V} {ds : List D} (h : H p = some (.lst vs)) (hf : F p = none) (hw : W p = none) (ap : Apart σ ρ p) (r : Rps K F vs ds) :
    Ok K W F0 (σ.set i (some (.ref p))) (ρ.set i (.ow ds)) F H := by
  refine ⟨o.toOkB, by simp [o.len], fun j x s h1 h2 => ?_, fun j k p' es es' h1 h2 h3 h4 => ?_⟩
  · by_cases hj : i = j
    · subst hj
      have hi : i < (σ.set i (some (V.ref p))).length := (List.getElem?_eq_some_iff.mp h1).1
      have hi' : i < (ρ.set i (.ow ds)).length := (List.getElem?_eq_some_iff.mp h2).1
      rw [List.getElem?_set_self (by simpa using hi)] at h1
      rw [List.getElem?_set_self (by simpa using hi')] at h2
      cases h1; cases h2
      exact ⟨p, vs, rfl, h, hf, hw, r⟩
    · rw [List.getElem?_set_ne hj] at h1 h2
      exact o.slots j x s h1 h2
  · have get : ∀ {k : Nat} {es : List D}, (ρ.set i (.ow ds))[k]? = some (.ow es) → (σ.set i (some (V.ref p)))[k]? = some (some (.ref p')) → (k = i ∧ p' = p) ∨ (i ≠ k ∧ ρ[k]? = some (.ow es) ∧ σ[k]? = some (some (.ref p'))) := fun {k es} a b => by
      by_cases hk : i = k
      · subst hk
        have hi : i < (σ.set i (some (V.ref p))).length := (List.getElem?_eq_some_iff.mp b).1
        rw [List.getElem?_set_self (by simpa using hi)] at b
        cases b
        exact .inl ⟨rfl, rfl⟩
      · rw [List.getElem?_set_ne hk] at a b
        exact .inr ⟨hk, a, b⟩
    rcases get h1 h3 with ⟨e1, e2⟩ | ⟨n1, a1, b1⟩
    · rcases get h2 h4 with ⟨e3, _⟩ | ⟨n2, a2, b2⟩
      · rw [e1, e3]
      · exact absurd (by rw [b2, e2]) (ap k es' a2)
    · rcases get h2 h4 with ⟨e3, e4⟩ | ⟨n2, a2, b2⟩
      · exact absurd (by rw [b1, e4]) (ap j es a1)
      · exact o.dist j k p' es es' a1 a2 b1 b2
/-- the list of an owned slot is changed -/
theorem Ok.setAt (o : Ok K W F0 σ ρ F H) {i : Nat} {p : Addr} {vs : List V} {ds es : List D} (hi : ρ[i]? = some (.ow ds)) (hs : σ[i]? = some (some (.ref p))) (r : Rps K F vs es) :
    Ok K W F0 σ (ρ.set i (.ow es)) F (upd H p (.lst vs)) := by
  obtain ⟨p', ws, e, h, hf, hw, _⟩ := o.slots i _ _ hs hi
  cases e
  have nf : ∀ b x, F b = some x → b ≠ p := fun b x e z => by rw [z, hf] at e; cases e
  have hil : i < ρ.length := (List.getElem?_eq_some_iff.mp hi).1
  refine ⟨⟨fun b x e => ?_, fun b x e => ?_, o.ext, o.new⟩, by simp [o.len], fun j x s h1 h2 => ?_, fun j k p' es1 es2 h1 h2 h3 h4 => ?_⟩
  · rw [upd_ne (nf b x e)]; exact o.sub b x e
  · rw [upd_ne (fun z => by rw [z, hw] at e; cases e)]; exact o.wld b x e
  · by_cases hj : i = j
    · subst hj
      rw [List.getElem?_set_self hil] at h2
      rw [hs] at h1
      cases h1; cases h2
      exact ⟨p, vs, rfl, upd_same, hf, hw, r⟩
    · rw [List.getElem?_set_ne hj] at h2
      have q := o.slots j x s h1 h2
      cases s with
      | un => trivial
      | fz d => exact q
      | ow ds' =>
        obtain ⟨p2, vs2, e, h', f, w, r'⟩ := q
        refine ⟨p2, vs2, e, ?_, f, w, r'⟩
        rw [upd_ne]
        · exact h'
        · rintro rfl
          exact hj (o.dist i j p2 ds ds' hi h2 hs (by rw [h1, e]))
  · have back : ∀ {k : Nat} {es3 : List D}, (ρ.set i (.ow es))[k]? = some (.ow es3) → ∃ es4, ρ[k]? = some (.ow es4) := fun {k es3} a => by
      by_cases hk : i = k
      · subst hk; exact ⟨ds, hi⟩
      · rw [List.getElem?_set_ne hk] at a; exact ⟨es3, a⟩
    obtain ⟨q1, g1⟩ := back h1
    obtain ⟨q2, g2⟩ := back h2
    exact o.dist j k p' q1 q2 g1 g2 h3 h4
def frz (i : Nat) (ρ : En) : En := match ρ[i]? with
  | some (.ow ds) => ρ.set i (.fz (.lst ds))
  | _ => ρ
theorem Ok.freeze (o : Ok K W F0 σ ρ F H) (i : Nat) : ∃ F', Same F F' ∧ Ok K W F0 σ (frz i ρ) F' H := by
  unfold frz
  split
  · rename_i ds hi
    have hil : i < ρ.length := (List.getElem?_eq_some_iff.mp hi).1
    have hs : σ[i]? = some (σ[i]'(by rw [o.len]; exact hil)) := List.getElem?_eq_getElem _
    obtain ⟨p, vs, e, h, hf, hw, r⟩ := o.slots i _ _ hs hi
    rw [e] at hs
    have s : Same F (upd F p (.lst vs)) := same_upd hf
    refine ⟨upd F p (.lst vs), s, ⟨fun b x e => ?_, o.wld, o.ext.trans s, fun b x nt e1 e2 => ?_⟩, by simp [o.len], fun j x sl h1 h2 => ?_, fun j k p' es es' h1 h2 h3 h4 => ?_⟩
    · by_cases hb : b = p
      · subst hb; rw [upd_same] at e; cases e; exact h
      · rw [upd_ne hb] at e; exact o.sub b x e
    · rw [upd_ne (ne_of_none e1 hw)]; exact o.new b x nt e1 e2
    · by_cases hj : i = j
      · subst hj
        rw [List.getElem?_set_self hil] at h2
        rw [hs] at h1
        cases h1; cases h2
        exact ⟨_, rfl, rp_lst.mpr ⟨p, vs, rfl, upd_same, r.mono s⟩⟩
      · rw [List.getElem?_set_ne hj] at h2
        have q := o.slots j x sl h1 h2
        cases sl with
        | un => trivial
        | fz d =>
          obtain ⟨v, e, r'⟩ := q
          exact ⟨v, e, r'.mono s⟩
        | ow ds' =>
          obtain ⟨p2, vs2, e2, h', f, w, r'⟩ := q
          refine ⟨p2, vs2, e2, h', ?_, w, r'.mono s⟩
          rw [upd_ne]
          · exact f
          · rintro rfl
            exact hj (o.dist i j p2 ds ds' hi h2 hs (by rw [h1, e2]))
    · have ne : ∀ {k : Nat} {es : List D}, (ρ.set i (.fz (.lst ds)))[k]? = some (.ow es) → i ≠ k := fun {k es} a z => by
        subst z
        rw [List.getElem?_set_self hil] at a; cases a
      have n1 := ne h1
      have n2 := ne h2
      rw [List.getElem?_set_ne n1] at h1
      rw [List.getElem?_set_ne n2] at h2
      exact o.dist j k p' es es' h1 h2 h3 h4
  · exact ⟨F, Same.refl _, o⟩
end
end DD

namespace DD
open PySem PySem.Spec PyProof.Rows L2
variable [Iota]

/-! ### expressions -/
def DE (K : PySem.W.Frag) (t : TE) (f : En → R D) : Prop := ∀ (W F0 : Hp) (σ : L2.St) (ρ : En) (F H : Hp) (d : D) (Q : VK), Ok K W F0 σ ρ F H → f ρ = .ok d →
  (∀ v F' H', Ok K W F0 σ ρ F' H' → Same F F' → Rp K F' v d → Q v H') → t σ H Q
structure PD (X : Cx) (e : Expr) (t : TE) (f : En → R D) : Prop where
  pe : PE X e t
  de : DE X.K t f
def DT (K : PySem.W.Frag) (t : TT) (f : En → R Bool) : Prop := ∀ (W F0 : Hp) (σ : L2.St) (ρ : En) (F H : Hp) (b : Bool) (Q : Bool → Hp → Prop), Ok K W F0 σ ρ F H → f ρ = .ok b →
  (∀ F' H', Ok K W F0 σ ρ F' H' → Same F F' → Q b H') → t σ H Q
structure PTD (X : Cx) (e : Expr) (t : TT) (f : En → R Bool) : Prop where
  pe : PT X e t
  de : DT X.K t f
structure PWD (X : Cx) (e : Expr) (t : TT) (f : En → R Bool) : Prop where
  pe : PW X e t
  de : DT X.K t f
def DAs (K : PySem.W.Frag) (t : TA) (f : En → R (List D)) : Prop := ∀ (W F0 : Hp) (σ : L2.St) (ρ : En) (F H : Hp) (ds : List D) (Q : List V → Hp → Prop), Ok K W F0 σ ρ F H → f ρ = .ok ds →
  (∀ vs F' H', Ok K W F0 σ ρ F' H' → Same F F' → Rps K F' vs ds → Q vs H') → t σ H Q
structure PAD (X : Cx) (es : List Expr) (t : TA) (f : En → R (List D)) : Prop where
  pe : PA X es t
  de : DAs X.K t f
/-- a list (perhaps owned by a slot): its items are frozen data -/
def DLs (K : PySem.W.Frag) (t : TE) (f : En → R (List D)) : Prop := ∀ (W F0 : Hp) (σ : L2.St) (ρ : En) (F H : Hp) (ds : List D) (Q : VK), Ok K W F0 σ ρ F H → f ρ = .ok ds →
  (∀ p vs F' H', Ok K W F0 σ ρ F' H' → Same F F' → H' p = some (.lst vs) → Rps K F' vs ds → Q (.ref p) H') → t σ H Q
structure PL (X : Cx) (e : Expr) (t : TE) (f : En → R (List D)) : Prop where
  pe : PE X e t
  de : DLs X.K t f
/-- a new list, nobody's yet -/
def DF (K : PySem.W.Frag) (t : TE) (f : En → R (List D)) : Prop := ∀ (W F0 : Hp) (σ : L2.St) (ρ : En) (F H : Hp) (ds : List D) (Q : VK), Ok K W F0 σ ρ F H → f ρ = .ok ds →
  (∀ p vs F' H', Ok K W F0 σ ρ F' H' → Same F F' → H' p = some (.lst vs) → F' p = none → W p = none → Apart σ ρ p → Rps K F' vs ds → Q (.ref p) H') → t σ H Q
structure PF (X : Cx) (e : Expr) (t : TE) (f : En → R (List D)) : Prop where
  pe : PE X e t
  de : DF X.K t f
def toLst (f : En → R (List D)) : En → R D := fun ρ => f ρ >>= fun ds => .ok (.lst ds)
def ofLst : D → R (List D)
  | .lst ds => .ok ds
  | _ => .bad
theorem PF.pl {X : Cx} {e : Expr} {t : TE} {f : En → R (List D)} (h : PF X e t f) : PL X e t f :=
  ⟨h.pe, fun W F0 σ ρ F H ds Q o e q => h.de W F0 σ ρ F H ds Q o e fun p vs F' H' o' s hp _ _ _ r => q p vs F' H' o' s hp r⟩
theorem PF.pd {X : Cx} {e : Expr} {t : TE} {f : En → R (List D)} (h : PF X e t f) : PD X e t (toLst f) := by
  refine ⟨h.pe, fun W F0 σ ρ F H d Q o e q => ?_⟩
  obtain ⟨ds, e1, e2⟩ := R.of_bind e
  cases e2
  refine h.de W F0 σ ρ F H ds Q o e1 fun p vs F' H' o' s hp hf hw ap r => ?_
  have s' : Same F' (upd F' p (.lst vs)) := same_upd hf
  exact q _ _ _ (o'.freezeAt hp hf hw ap) (s.trans s') (rp_lst.mpr ⟨p, vs, rfl, upd_same, r.mono s'⟩)
theorem PD.pl {X : Cx} {e : Expr} {t : TE} {f : En → R D} (h : PD X e t f) : PL X e t (fun ρ => f ρ >>= ofLst) := by
  refine ⟨h.pe, fun W F0 σ ρ F H ds Q o e q => ?_⟩
  obtain ⟨d, e1, e2⟩ := R.of_bind e
  cases d <;> first | (cases e2; done) | skip
  rename_i ds'
  cases e2
  refine h.de W F0 σ ρ F H _ Q o e1 fun v F' H' o' s r => ?_
  obtain ⟨a, xs, rfl, ha, r⟩ := rp_lst.mp r
  exact q a xs F' H' o' s (o'.sub _ _ ha) r
/-! names and constants -/
def eVar (i : Nat) : En → R D := fun ρ => match ρ[i]? with
  | some (.fz d) => .ok d
  | _ => .bad
def eOwn (i : Nat) : En → R (List D) := fun ρ => match ρ[i]? with
  | some (.ow ds) => .ok ds
  | _ => .bad
def eC (d : D) : En → R D := fun _ => .ok d
section
variable {X : Cx} {pos : Pos} {j : Nat}
theorem slot_at {K : PySem.W.Frag} {W F0 F H : Hp} {σ : L2.St} {ρ : En} (o : Ok K W F0 σ ρ F H) {i : Nat} {s : Sl} (h : ρ[i]? = some s) : ∃ x, σ[i]? = some x ∧ SlOk K W F H x s := by
  have hi : i < σ.length := by rw [o.len]; exact (List.getElem?_eq_some_iff.mp h).1
  exact ⟨_, List.getElem?_eq_getElem hi, o.slots i _ _ (List.getElem?_eq_getElem hi) h⟩
theorem pdv (i : Nat) {x : Str} {pos : Pos} (hN : X.N[i]? = some x := by rfl) (hv : Vis X.env.scope x := by first | exact Or.inl rfl | exact Or.inr (Or.inl rfl) | exact Or.inr (Or.inr rfl)) (hd : (x == ("__debug__" : Str)) = false := by decide)
    (hcd : (x == ("__classdict__" : Str)) = false := by decide) : PD X (.Name x pos) (tVar i) (eVar i) := by
  refine ⟨pe_var hN hv hd hcd, fun W F0 σ ρ F H d Q o e q => ?_⟩
  unfold eVar at e
  split at e
  · rename_i d' hd
    cases e
    obtain ⟨x, h1, v, e, r⟩ := slot_at o hd
    exact ⟨v, by rw [h1, e], q v F H o (Same.refl _) r⟩
  · cases e
theorem plv (i : Nat) {x : Str} {pos : Pos} (hN : X.N[i]? = some x := by rfl) (hv : Vis X.env.scope x := by first | exact Or.inl rfl | exact Or.inr (Or.inl rfl) | exact Or.inr (Or.inr rfl)) (hd : (x == ("__debug__" : Str)) = false := by decide)
    (hcd : (x == ("__classdict__" : Str)) = false := by decide) : PL X (.Name x pos) (tVar i) (eOwn i) := by
  refine ⟨pe_var hN hv hd hcd, fun W F0 σ ρ F H d Q o e q => ?_⟩
  unfold eOwn at e
  split at e
  · rename_i d' hd
    cases e
    obtain ⟨x, h1, p, vs, e, hp, hf, hw, r⟩ := slot_at o hd
    exact ⟨_, by rw [h1, e], q p vs F H o (Same.refl _) hp r⟩
  · cases e
theorem de_c {K : PySem.W.Frag} {v : V} {d : D} (h : ∀ F, Rp K F v d) : DE K (tC v) (eC d) := fun W F0 σ ρ F H d Q o e q => by
  cases e
  exact q v F H o (Same.refl _) (h F)
theorem pd_int {i : Int} : PD X (.Constant (.int i) j pos) (tC (.int i)) (eC (.int i)) := ⟨pe_int, de_c fun _ => rp_int.mpr rfl⟩
theorem pd_bl {i : Bool} : PD X (.Constant (.bool i) j pos) (tC (.bl i)) (eC (.bl i)) := ⟨pe_bl, de_c fun _ => rp_bl.mpr rfl⟩
theorem pd_str {i : Str} : PD X (.Constant (.str i) j pos) (tC (.str i)) (eC (.str i)) := ⟨pe_str, de_c fun _ => rp_str.mpr rfl⟩
theorem pd_non : PD X (.Constant .none j pos) (tC .non) (eC .non) := ⟨pe_non, de_c fun _ => rp_non.mpr rfl⟩
theorem pd_glob {x : Str} {v : V} {u : Value} {d : D} (hm : X.mg x = some u) (r : RelV v u) (hd : ∀ F, Rp X.K F v d) (hg : Gl X x := by rfl) (h : (x == ("__debug__" : Str)) = false := by decide) : PD X (.Name x pos) (tC v) (eC d) :=
  ⟨pe_glob hg hm r h, de_c hd⟩
end
/-! two operands -/
def eBin (g : D → D → R D) (a b : En → R D) : En → R D := fun ρ => a ρ >>= fun x => b ρ >>= fun y => g x y
def DR2 (K : PySem.W.Frag) (r : R2) (g : D → D → R D) : Prop := ∀ (W F0 : Hp) (σ : L2.St) (ρ : En) (F H : Hp) (x y : V) (dx dy d : D) (Q : VK), Ok K W F0 σ ρ F H → Rp K F x dx → Rp K F y dy → g dx dy = .ok d →
  (∀ v F' H', Ok K W F0 σ ρ F' H' → Same F F' → Rp K F' v d → Q v H') → r x y H Q
theorem de_bin {K : PySem.W.Frag} {r : R2} {g : D → D → R D} {ta tb : TE} {a b : En → R D} (hr : DR2 K r g) (ha : DE K ta a) (hb : DE K tb b) : DE K (tOp r ta tb) (eBin g a b) := fun W F0 σ ρ F H d Q o e q => by
  obtain ⟨dx, e1, e⟩ := R.of_bind e
  obtain ⟨dy, e2, e⟩ := R.of_bind e
  refine ha W F0 σ ρ F H dx _ o e1 fun x F1 H1 o1 s1 r1 => ?_
  refine hb W F0 σ ρ F1 H1 dy _ o1 e2 fun y F2 H2 o2 s2 r2 => ?_
  exact hr W F0 σ ρ F2 H2 x y dx dy d Q o2 (r1.mono s2) r2 e fun v F3 H3 o3 s3 r3 => q v F3 H3 o3 ((s1.trans s2).trans s3) r3
section
variable {X : Cx} {pos : Pos} {a b : Expr} {ta tb : TE} {fa fb : En → R D}
theorem pd_op {op : Operator} {r : R2} {g : D → D → R D} (ho : OpR X (binaryOp op) r) (hr : DR2 X.K r g) (ha : PD X a ta fa) (hb : PD X b tb fb) : PD X (.BinOp a op b pos) (tOp r ta tb) (eBin g fa fb) :=
  ⟨pe_op ho ha.pe hb.pe, de_bin hr ha.de hb.de⟩
theorem pd_cmp {op : CmpOp} {r : R2} {g : D → D → R D} (ho : OpR X (compareOp op) r) (hr : DR2 X.K r g) (ha : PD X a ta fa) (hb : PD X b tb fb) (hm : behindInMarks op b = false := by first | exact nomark _ | rfl | with_unfolding_all rfl) :
    PD X (.Compare a [op] [b] pos) (tOp r ta tb) (eBin g fa fb) := ⟨pe_cmpR ho ha.pe hb.pe hm, de_bin hr ha.de hb.de⟩
end
/-! the operators -/
theorem line_eq : (sizeLine : Nat) = 16777216 := sizeLine_eq
def bInt (g : Int → Int → D) : D → D → R D
  | .int i, .int j => .ok (g i j)
  | _, _ => .bad
theorem dr_int {K : PySem.W.Frag} {g : Int → Int → V} {g' : Int → Int → D} (h : ∀ i j F, Rp K F (g i j) (g' i j)) : DR2 K (rI0 g) (bInt g') := fun W F0 σ ρ F H x y dx dy d Q o rx ry e q => by
  unfold bInt at e
  split at e
  · cases e
    exact ⟨_, _, rp_int.mp rx, rp_int.mp ry, q _ F H o (Same.refl _) (h _ _ F)⟩
  · cases e
def bIntC (C : Int → Int → Bool) (g : Int → Int → D) : D → D → R D
  | .int i, .int j => guardR (C i j) >>= fun _ => .ok (g i j)
  | _, _ => .bad
theorem dr_intC {K : PySem.W.Frag} {P : Int → Int → Prop} {C : Int → Int → Bool} {g : Int → Int → V} {g' : Int → Int → D} (hp : ∀ i j, C i j = true → P i j) (h : ∀ i j F, Rp K F (g i j) (g' i j)) : DR2 K (rI P g) (bIntC C g') :=
  fun W F0 σ ρ F H x y dx dy d Q o rx ry e q => by
  unfold bIntC at e
  split at e
  · obtain ⟨u, e1, e2⟩ := R.of_bind e
    cases e2
    exact ⟨_, _, rp_int.mp rx, rp_int.mp ry, hp _ _ (of_guard e1), q _ F H o (Same.refl _) (h _ _ F)⟩
  · cases e
def small (n : Nat) : Bool := decide (n ≤ 16777216)
theorem of_small {n : Nat} (h : small n = true) : n ≤ sizeLine := by rw [line_eq]; exact of_decide_eq_true h
def dAdd : D → D → R D
  | .int i, .int j => .ok (.int (i + j))
  | .str a, .str b => guardR (small (a.length + b.length)) >>= fun _ => .ok (.str (a ++ b))
  | .tup a, .tup b => guardR (small (a.length + b.length)) >>= fun _ => .ok (.tup (a ++ b))
  | .lst a, .lst b => guardR (small (a.length + b.length)) >>= fun _ => .ok (.lst (a ++ b))
  | _, _ => .bad
def rAddI : R2 := rI0 fun i j => .int (i + j)
def rAddS : R2 := fun x y H Q => ∃ i j, x = .str i ∧ y = .str j ∧ i.length + j.length ≤ sizeLine ∧ Q (.str (i ++ j)) H
def rAddA (K : PySem.W.Frag) : R2 := fun x y H Q => rAddI x y H Q ∨ (rAddS x y H Q ∨ (rCatA K x y H Q ∨ rCat x y H Q))
section
variable {X : Cx}
theorem op_addA : OpR X (binaryOp .Add) (rAddA X.K) := op_add.or (OpR.or (r := rAddS) op_add_str (op_catA.or op_cat))
theorem dr_add {K : PySem.W.Frag} : DR2 K (rAddA K) dAdd := fun W F0 σ ρ F H x y dx dy d Q o rx ry e q => by
  unfold dAdd at e
  split at e
  · cases e
    exact .inl ⟨_, _, rp_int.mp rx, rp_int.mp ry, q _ F H o (Same.refl _) (rp_int.mpr rfl)⟩
  · obtain ⟨u, e1, e2⟩ := R.of_bind e
    cases e2
    exact .inr (.inl ⟨_, _, rp_str.mp rx, rp_str.mp ry, of_small (of_guard e1), q _ F H o (Same.refl _) (rp_str.mpr rfl)⟩)
  · obtain ⟨u, e1, e2⟩ := R.of_bind e
    cases e2
    rename_i as bs
    obtain ⟨a, xs, rfl, ha, r1⟩ := rp_tup.mp rx
    obtain ⟨b, ys, rfl, hb, r2⟩ := rp_tup.mp ry
    have l1 := r1.length
    have l2 := r2.length
    refine .inr (.inr (.inl ⟨a, b, xs, ys, rfl, rfl, Same.seqT o.sub ha, Same.seqT o.sub hb, by rw [l1, l2]; exact of_small (of_guard e1), fun z => ?_, fun _ z => ?_, fun _ _ p hp => ?_⟩))
    · subst z
      have z : as = [] := List.eq_nil_of_length_eq_zero (by simpa using l1.symm)
      subst z
      exact q _ F H o (Same.refl _) (rp_tup.mpr ⟨b, ys, rfl, hb, by simpa using r2⟩)
    · subst z
      have z : bs = [] := List.eq_nil_of_length_eq_zero (by simpa using l2.symm)
      subst z
      exact q _ F H o (Same.refl _) (rp_tup.mpr ⟨a, xs, rfl, ha, by simpa using r1⟩)
    · have s := same_upd (u := .tup (xs ++ ys)) (o.free hp).1
      exact q _ _ _ (o.push _ hp) s (rp_tup.mpr ⟨p, _, rfl, upd_same, (r1.append r2).mono s⟩)
  · obtain ⟨u, e1, e2⟩ := R.of_bind e
    cases e2
    obtain ⟨a, xs, rfl, ha, r1⟩ := rp_lst.mp rx
    obtain ⟨b, ys, rfl, hb, r2⟩ := rp_lst.mp ry
    have l1 := r1.length
    have l2 := r2.length
    refine .inr (.inr (.inr ⟨a, b, xs, ys, rfl, rfl, o.sub _ _ ha, o.sub _ _ hb, by rw [l1, l2]; exact of_small (of_guard e1), fun p hp => ?_⟩))
    have s := same_upd (u := .lst (xs ++ ys)) (o.free hp).1
    exact q _ _ _ (o.push _ hp) s (rp_lst.mpr ⟨p, _, rfl, upd_same, (r1.append r2).mono s⟩)
  · cases e
end
def dSub : D → D → R D := bInt fun i j => .int (i - j)
theorem dr_sub {K : PySem.W.Frag} : DR2 K (rI0 fun i j => .int (i - j)) dSub := dr_int fun _ _ _ => rp_int.mpr rfl
def within64 (i : Int) : Bool := decide (-(2 ^ 64) < i) && decide (i < 2 ^ 64)
theorem of_within64 {i : Int} (h : within64 i = true) : -(2 ^ 64) < i ∧ i < 2 ^ 64 := by
  unfold within64 at h
  rw [Bool.and_eq_true] at h
  exact ⟨of_decide_eq_true h.1, of_decide_eq_true h.2⟩
def dMul : D → D → R D := bIntC (fun i j => within64 i || within64 j) fun i j => .int (i * j)
theorem dr_mul {K : PySem.W.Frag} : DR2 K (rI CMul fun i j => .int (i * j)) dMul := dr_intC (fun i j h => by
  rw [Bool.or_eq_true] at h
  rcases h with h | h
  · exact .inl (of_within64 h)
  · exact .inr (of_within64 h)) fun _ _ _ => rp_int.mpr rfl
def dFdiv : D → D → R D := bIntC (fun _ j => decide (0 < j) && decide (j < 1073741824)) fun i j => .int (i / j)
theorem dr_fdiv {K : PySem.W.Frag} : DR2 K (rI CDiv fun i j => .int (i / j)) dFdiv := dr_intC (fun i j h => by
  rw [Bool.and_eq_true] at h
  exact ⟨of_decide_eq_true h.1, of_decide_eq_true h.2⟩) fun _ _ _ => rp_int.mpr rfl
def dMod : D → D → R D := bIntC (fun _ j => decide (0 < j)) fun i j => .int (i % j)
theorem dr_mod {K : PySem.W.Frag} : DR2 K (rI (fun _ j => 0 < j) fun i j => .int (i % j)) dMod := dr_intC (fun i j h => of_decide_eq_true h) fun _ _ _ => rp_int.mpr rfl
def dPow : D → D → R D := bIntC (fun i j => decide (0 ≤ j) && decide (j ≤ 1000000) && decide (i.natAbs < 2 ^ 64)) fun i j => .int (i ^ j.toNat)
theorem dr_pow {K : PySem.W.Frag} : DR2 K (rI CPow fun i j => .int (i ^ j.toNat)) dPow := dr_intC (fun i j h => by
  rw [Bool.and_eq_true, Bool.and_eq_true] at h
  exact ⟨of_decide_eq_true h.1.1, of_decide_eq_true h.1.2, of_decide_eq_true h.2⟩) fun _ _ _ => rp_int.mpr rfl
def dLt : D → D → R D := bInt fun i j => .bl (decide (i < j))
def dLe : D → D → R D := bInt fun i j => .bl (decide (i ≤ j))
def dGt : D → D → R D := bInt fun i j => .bl (decide (j < i))
def dGe : D → D → R D := bInt fun i j => .bl (decide (j ≤ i))
theorem dr_lt {K : PySem.W.Frag} : DR2 K (rI0 fun i j => .bl (decide (i < j))) dLt := dr_int fun _ _ _ => rp_bl.mpr rfl
theorem dr_le {K : PySem.W.Frag} : DR2 K (rI0 fun i j => .bl (decide (i ≤ j))) dLe := dr_int fun _ _ _ => rp_bl.mpr rfl
theorem dr_gt {K : PySem.W.Frag} : DR2 K (rI0 fun i j => .bl (decide (j < i))) dGt := dr_int fun _ _ _ => rp_bl.mpr rfl
theorem dr_ge {K : PySem.W.Frag} : DR2 K (rI0 fun i j => .bl (decide (j ≤ i))) dGe := dr_int fun _ _ _ => rp_bl.mpr rfl
/-- == of scalars -/
def sEq : D → D → Option Bool
  | .non, .non => some true
  | .int i, .int j => some (i == j)
  | .bl i, .bl j => some (i == j)
  | .str i, .str j => some (i == j)
  | .non, .int _ => some false | .int _, .non => some false | .non, .bl _ => some false | .bl _, .non => some false
  | .non, .str _ => some false | .str _, .non => some false | .int _, .str _ => some false | .str _, .int _ => some false
  | .bl _, .str _ => some false | .str _, .bl _ => some false
  | _, _ => none
def dEq (x y : D) : R D := match sEq x y with
  | some b => .ok (.bl b)
  | none => .bad
def dNe (x y : D) : R D := match sEq x y with
  | some b => .ok (.bl (!b))
  | none => .bad
theorem sEq_ok {K : PySem.W.Frag} {F : Hp} {x y : V} {dx dy : D} {b : Bool} (rx : Rp K F x dx) (ry : Rp K F y dy) (e : sEq dx dy = some b) : scal x y = true ∧ decide (x = y) = b := by
  cases dx <;> cases dy <;> first
    | (cases e; done)
    | (simp only [Rp] at rx ry; subst rx; subst ry; simp only [sEq, Option.some.injEq] at e; subst e; refine ⟨rfl, ?_⟩; first | rfl | exact dec_int | exact dec_bl | exact dec_str | simp)
theorem dr_eq {K : PySem.W.Frag} : DR2 K rEq dEq := fun W F0 σ ρ F H x y dx dy d Q o rx ry e q => by
  unfold dEq at e
  split at e
  · rename_i b hb
    cases e
    obtain ⟨h1, h2⟩ := sEq_ok rx ry hb
    exact ⟨h1, by rw [h2]; exact q _ F H o (Same.refl _) (rp_bl.mpr rfl)⟩
  · cases e
theorem dr_ne {K : PySem.W.Frag} : DR2 K rNe dNe := fun W F0 σ ρ F H x y dx dy d Q o rx ry e q => by
  unfold dNe at e
  split at e
  · rename_i b hb
    cases e
    obtain ⟨h1, h2⟩ := sEq_ok rx ry hb
    exact ⟨h1, by rw [h2]; exact q _ F H o (Same.refl _) (rp_bl.mpr rfl)⟩
  · cases e
/-- is None -/
def isNon : D → Bool
  | .non => true
  | _ => false
theorem isNon_ok {K : PySem.W.Frag} {F : Hp} {x : V} {d : D} (r : Rp K F x d) : decide (x = .non) = isNon d := by
  cases d with
  | tup ds => obtain ⟨a, xs, rfl, _⟩ := rp_tup.mp r; rfl
  | lst ds => obtain ⟨a, xs, rfl, _⟩ := rp_lst.mp r; rfl
  | rol ds => obtain ⟨a, xs, rfl, _⟩ := rp_rol.mp r; rfl
  | dic ks ds => obtain ⟨a, xs, rfl, _⟩ := rp_dic.mp r; rfl
  | ref n => obtain ⟨a, rfl, _⟩ := rp_ref.mp r; rfl
  | exn C ns ds => obtain ⟨a, rfl, _⟩ := rp_exn.mp r; rfl
  | ktup ds => obtain ⟨a, xs, rfl, _⟩ := rp_ktup.mp r; rfl
  | _ => simp only [Rp] at r; subst r; first | rfl | simp [isNon]
def dIsN (x y : D) : R D := match y with
  | .non => .ok (.bl (isNon x))
  | _ => .bad
def dNotN (x y : D) : R D := match y with
  | .non => .ok (.bl (!isNon x))
  | _ => .bad
theorem dr_isN {K : PySem.W.Frag} : DR2 K (fun x y H Q => y = .non ∧ Q (.bl (decide (x = .non))) H) dIsN := fun W F0 σ ρ F H x y dx dy d Q o rx ry e q => by
  unfold dIsN at e
  split at e
  · cases e
    exact ⟨rp_non.mp ry, by rw [isNon_ok rx]; exact q _ F H o (Same.refl _) (rp_bl.mpr rfl)⟩
  · cases e
theorem dr_notN {K : PySem.W.Frag} : DR2 K (fun x y H Q => y = .non ∧ Q (.bl (!decide (x = .non))) H) dNotN := fun W F0 σ ρ F H x y dx dy d Q o rx ry e q => by
  unfold dNotN at e
  split at e
  · cases e
    exact ⟨rp_non.mp ry, by rw [isNon_ok rx]; exact q _ F H o (Same.refl _) (rp_bl.mpr rfl)⟩
  · cases e
/-! tests -/
def asB : D → R Bool
  | .bl b => .ok b
  | _ => .bad
def tst (f : En → R D) : En → R Bool := fun ρ => f ρ >>= asB
theorem dt_of {K : PySem.W.Frag} {t : TE} {f : En → R D} (h : DE K t f) : DT K (tTest t) (tst f) := fun W F0 σ ρ F H b Q o e q => by
  obtain ⟨d, e1, e2⟩ := R.of_bind e
  refine h W F0 σ ρ F H d _ o e1 fun v F' H' o' s r => ?_
  cases d <;> first | (cases e2; done) | skip
  cases e2
  exact ⟨b, rp_bl.mp r, q F' H' o' s⟩
section
variable {X : Cx} {pos : Pos} {a b c e : Expr} {rest : List Expr} {ta tb tc : TE} {fa fb fc : En → R D} {t u : TT} {f g : En → R Bool}
theorem ptd_cmp {op : CmpOp} {r : R2} {g : D → D → R D} (ho : OpR X (compareOp op) r) (hr : DR2 X.K r g) (ha : PD X a ta fa) (hb : PD X b tb fb) (hm : behindInMarks op b = false := by first | exact nomark _ | rfl | with_unfolding_all rfl) :
    PTD X (.Compare a [op] [b] pos) (tTest (tOp r ta tb)) (tst (eBin g fa fb)) := ⟨pt_cmpR ho ha.pe hb.pe hm, dt_of (de_bin hr ha.de hb.de)⟩
theorem ptd_val (h : PD X e ta fa) (he : ∀ whole, isTrue e X.env whole = (do let v ← whole; standAt e.pos; holding [v] (truthy v)) := by intro _; rfl) : PTD X e (tB ta) (tst fa) := ⟨pt_val h.pe he, dt_of h.de⟩
/-- truth of any value -/
def truD : D → R Bool
  | .non => .ok false
  | .bl b => .ok b
  | .int i => .ok (i != 0)
  | .str s => guardR (small s.length) >>= fun _ => .ok (decide (s.length ≠ 0))
  | .tup ds => .ok (!ds.isEmpty)
  | .lst ds => .ok (!ds.isEmpty)
  | .rol ds => .ok (!ds.isEmpty)
  | .dic ks _ => .ok (!ks.isEmpty)
  | _ => .bad
def truL (ds : List D) : R Bool := .ok (!ds.isEmpty)
theorem empty_of {K : PySem.W.Frag} {F : Hp} {xs : List V} {ds : List D} (r : Rps K F xs ds) : (!ds.isEmpty) = !xs.isEmpty := by
  have l := r.length
  cases xs <;> cases ds <;> simp_all
theorem ptd_truth (h : PD X e ta fa) (he : ∀ whole, isTrue e X.env whole = (do let v ← whole; standAt e.pos; holding [v] (truthy v)) := by intro _; rfl) :
    PTD X e (fun σ H Q => ta σ H fun x H' => ∃ k, TruV X.K x H' k ∧ Q k H') (fun ρ => fa ρ >>= truD) := by
  refine ⟨pt_truth h.pe he, fun W F0 σ ρ F H b Q o e q => ?_⟩
  obtain ⟨d, e1, e2⟩ := R.of_bind e
  refine h.de W F0 σ ρ F H d _ o e1 fun v F' H' o' s r => ?_
  cases d with
  | ref n => cases e2
  | clr n => cases e2
  | ktup n => cases e2
  | ty n => cases e2
  | exn _ _ _ => cases e2
  | non => cases e2; cases rp_non.mp r; exact ⟨false, rfl, q F' H' o' s⟩
  | bl k => cases e2; cases rp_bl.mp r; exact ⟨_, rfl, q F' H' o' s⟩
  | int k => cases e2; cases rp_int.mp r; exact ⟨_, rfl, q F' H' o' s⟩
  | str z =>
    obtain ⟨u, g, e2⟩ := R.of_bind e2
    cases e2; cases rp_str.mp r
    refine ⟨_, ⟨of_small (of_guard g), ?_⟩, q F' H' o' s⟩
    by_cases hz : z.length = 0 <;> simp [hz]
  | tup ds =>
    cases e2
    obtain ⟨a, xs, rfl, ha, r⟩ := rp_tup.mp r
    exact ⟨_, .inr (.inl ⟨xs, Same.seqT o'.sub ha, empty_of r⟩), q F' H' o' s⟩
  | lst ds =>
    cases e2
    obtain ⟨a, xs, rfl, ha, r⟩ := rp_lst.mp r
    exact ⟨_, .inl ⟨xs, SqL.of (o'.sub _ _ ha), empty_of r⟩, q F' H' o' s⟩
  | rol ds =>
    cases e2
    obtain ⟨a, xs, rfl, ha, r⟩ := rp_rol.mp r
    exact ⟨_, .inl ⟨xs, o'.sub.seq ha, empty_of r⟩, q F' H' o' s⟩
  | dic ks ds =>
    cases e2
    obtain ⟨a, xs, rfl, ha, hl, r⟩ := rp_dic.mp r
    refine ⟨_, .inr (.inr ⟨_, o'.sub _ _ ha, ?_⟩), q F' H' o' s⟩
    cases ks <;> cases xs <;> simp_all
theorem ptl_truth {f : En → R (List D)} (h : PL X e ta f) (he : ∀ whole, isTrue e X.env whole = (do let v ← whole; standAt e.pos; holding [v] (truthy v)) := by intro _; rfl) :
    PTD X e (fun σ H Q => ta σ H fun x H' => ∃ k, TruV X.K x H' k ∧ Q k H') (fun ρ => f ρ >>= truL) := by
  refine ⟨pt_truth h.pe he, fun W F0 σ ρ F H b Q o e q => ?_⟩
  obtain ⟨ds, e1, e2⟩ := R.of_bind e
  cases e2
  refine h.de W F0 σ ρ F H ds _ o e1 fun p vs F' H' o' s hp r => ?_
  exact ⟨_, .inl ⟨vs, SqL.of hp, empty_of r⟩, q F' H' o' s⟩
def bAnd (f g : En → R Bool) : En → R Bool := fun ρ => f ρ >>= fun b => if b = true then g ρ else .ok false
def bOr (f g : En → R Bool) : En → R Bool := fun ρ => f ρ >>= fun b => if b = true then .ok true else g ρ
def bNot (f : En → R Bool) : En → R Bool := fun ρ => f ρ >>= fun b => .ok (!b)
theorem PWD.pt (h : PWD X e t f) : PTD X e t f := ⟨h.pe.pt, h.de⟩
theorem pwd_and1 (ha : PTD X a t f) : PWD X (.BoolOp .And [a] pos) t f := ⟨pw_and1 ha.pe, ha.de⟩
theorem pwd_or1 (ha : PTD X a t f) : PWD X (.BoolOp .Or [a] pos) t f := ⟨pw_or1 ha.pe, ha.de⟩
theorem pwd_and (ha : PTD X a t f) (hb : PWD X (.BoolOp .And (b :: rest) pos) u g) : PWD X (.BoolOp .And (a :: b :: rest) pos) (tAnd t u) (bAnd f g) := by
  refine ⟨pw_and ha.pe hb.pe, fun W F0 σ ρ F H k Q o e q => ?_⟩
  obtain ⟨c, e1, e2⟩ := R.of_bind e
  refine ha.de W F0 σ ρ F H c _ o e1 fun F1 H1 o1 s1 => ?_
  cases c with
  | true => exact iteT (hb.de W F0 σ ρ F1 H1 k Q o1 (by simpa using e2) fun F2 H2 o2 s2 => q F2 H2 o2 (s1.trans s2))
  | false =>
    have e3 : k = false := by simpa using e2.symm
    subst e3
    exact iteF (q F1 H1 o1 s1)
theorem pwd_or (ha : PTD X a t f) (hb : PWD X (.BoolOp .Or (b :: rest) pos) u g) : PWD X (.BoolOp .Or (a :: b :: rest) pos) (tOr t u) (bOr f g) := by
  refine ⟨pw_or ha.pe hb.pe, fun W F0 σ ρ F H k Q o e q => ?_⟩
  obtain ⟨c, e1, e2⟩ := R.of_bind e
  refine ha.de W F0 σ ρ F H c _ o e1 fun F1 H1 o1 s1 => ?_
  cases c with
  | false => exact iteF (hb.de W F0 σ ρ F1 H1 k Q o1 (by simpa using e2) fun F2 H2 o2 s2 => q F2 H2 o2 (s1.trans s2))
  | true =>
    have e3 : k = true := by simpa using e2.symm
    subst e3
    exact iteT (q F1 H1 o1 s1)
theorem ptd_not (ha : PTD X a t f) : PTD X (.UnaryOp .Not a pos) (tNot t) (bNot f) := by
  refine ⟨pt_not ha.pe, fun W F0 σ ρ F H k Q o e q => ?_⟩
  obtain ⟨c, e1, e2⟩ := R.of_bind e
  cases e2
  exact ha.de W F0 σ ρ F H c _ o e1 fun F1 H1 o1 s1 => q F1 H1 o1 s1
/-- as values: all but the last are bools -/
def vAnd (f g : En → R D) : En → R D := fun ρ => f ρ >>= fun d => asB d >>= fun b => if b = true then g ρ else .ok (.bl false)
def vOr (f g : En → R D) : En → R D := fun ρ => f ρ >>= fun d => asB d >>= fun b => if b = true then .ok (.bl true) else g ρ
def vNot (f : En → R D) : En → R D := fun ρ => f ρ >>= fun d => asB d >>= fun b => .ok (.bl (!b))
theorem pd_one {op} (h : PD X a ta fa) : PD X (.BoolOp op [a] pos) ta fa := ⟨pe_one h.pe, h.de⟩
theorem asB_ok {d : D} {b : Bool} (h : asB d = .ok b) : d = .bl b := by
  cases d <;> first | (cases h; done) | skip
  cases h; rfl
theorem pd_and (ha : PD X a ta fa) (hb : PD X (.BoolOp .And (b :: rest) pos) tb fb) : PD X (.BoolOp .And (a :: b :: rest) pos) (tAndV ta tb) (vAnd fa fb) := by
  refine ⟨pe_and ha.pe hb.pe, fun W F0 σ ρ F H k Q o e q => ?_⟩
  obtain ⟨d, e1, e'⟩ := R.of_bind e
  obtain ⟨c, e2, e''⟩ := R.of_bind e'
  clear e e'
  have e := e''
  clear e''
  cases asB_ok e2
  refine ha.de W F0 σ ρ F H _ _ o e1 fun v F1 H1 o1 s1 r1 => ⟨c, rp_bl.mp r1, ?_⟩
  cases c with
  | true => exact iteT (hb.de W F0 σ ρ F1 H1 k Q o1 (by simpa using e) fun v F2 H2 o2 s2 r => q v F2 H2 o2 (s1.trans s2) r)
  | false =>
    have e3 : D.bl false = k := by simpa using e
    subst e3
    exact iteF (q _ F1 H1 o1 s1 (rp_bl.mpr rfl))
theorem pd_or (ha : PD X a ta fa) (hb : PD X (.BoolOp .Or (b :: rest) pos) tb fb) : PD X (.BoolOp .Or (a :: b :: rest) pos) (tOrV ta tb) (vOr fa fb) := by
  refine ⟨pe_or ha.pe hb.pe, fun W F0 σ ρ F H k Q o e q => ?_⟩
  obtain ⟨d, e1, e'⟩ := R.of_bind e
  obtain ⟨c, e2, e''⟩ := R.of_bind e'
  clear e e'
  have e := e''
  clear e''
  cases asB_ok e2
  refine ha.de W F0 σ ρ F H _ _ o e1 fun v F1 H1 o1 s1 r1 => ⟨c, rp_bl.mp r1, ?_⟩
  cases c with
  | false => exact iteF (hb.de W F0 σ ρ F1 H1 k Q o1 (by simpa using e) fun v F2 H2 o2 s2 r => q v F2 H2 o2 (s1.trans s2) r)
  | true =>
    have e3 : D.bl true = k := by simpa using e
    subst e3
    exact iteT (q _ F1 H1 o1 s1 (rp_bl.mpr rfl))
theorem pd_not (ha : PD X a ta fa) : PD X (.UnaryOp .Not a pos) (tNotV ta) (vNot fa) := by
  refine ⟨pe_not ha.pe, fun W F0 σ ρ F H k Q o e q => ?_⟩
  obtain ⟨d, e1, e'⟩ := R.of_bind e
  obtain ⟨c, e2, e''⟩ := R.of_bind e'
  clear e e'
  have e := e''
  clear e''
  cases asB_ok e2
  cases e
  exact ha.de W F0 σ ρ F H _ _ o e1 fun v F1 H1 o1 s1 r1 => ⟨c, rp_bl.mp r1, q _ F1 H1 o1 s1 (rp_bl.mpr rfl)⟩
def eIf (t : En → R Bool) (a b : En → R D) : En → R D := fun ρ => t ρ >>= fun c => if c = true then a ρ else b ρ
theorem pd_if (hc : PTD X c t f) (ha : PD X a ta fa) (hb : PD X b tb fb) : PD X (.IfExp c a b pos) (tIf t ta tb) (eIf f fa fb) := by
  refine ⟨pe_ifExp hc.pe ha.pe hb.pe, fun W F0 σ ρ F H k Q o e q => ?_⟩
  obtain ⟨d, e1, e⟩ := R.of_bind e
  refine hc.de W F0 σ ρ F H _ _ o e1 fun F1 H1 o1 s1 => ?_
  cases d with
  | true => exact iteT (ha.de W F0 σ ρ F1 H1 k Q o1 (by simpa using e) fun v F2 H2 o2 s2 r => q v F2 H2 o2 (s1.trans s2) r)
  | false => exact iteF (hb.de W F0 σ ρ F1 H1 k Q o1 (by simpa using e) fun v F2 H2 o2 s2 r => q v F2 H2 o2 (s1.trans s2) r)
/-- a op1 b op2 c -/
def eChain (g g' : D → D → R D) (a b c : En → R D) : En → R D := fun ρ => a ρ >>= fun x => b ρ >>= fun y => g x y >>= fun z => asB z >>= fun k => if k = true then c ρ >>= fun w => g' y w else .ok (.bl false)
theorem de_chain {K : PySem.W.Frag} {r r' : R2} {g g' : D → D → R D} (hr : DR2 K r g) (hr' : DR2 K r' g') (ha : DE K ta fa) (hb : DE K tb fb) (hc : DE K tc fc) : DE K (tChain r r' ta tb tc) (eChain g g' fa fb fc) := fun W F0 σ ρ F H d Q o e q => by
  obtain ⟨dx, e1, e⟩ := R.of_bind e
  obtain ⟨dy, e2, e⟩ := R.of_bind e
  obtain ⟨dz, e3, e'⟩ := R.of_bind e
  obtain ⟨k, e4, e''⟩ := R.of_bind e'
  clear e e'
  have e := e''
  clear e''
  cases asB_ok e4
  refine ha W F0 σ ρ F H dx _ o e1 fun x F1 H1 o1 s1 r1 => ?_
  refine hb W F0 σ ρ F1 H1 dy _ o1 e2 fun y F2 H2 o2 s2 r2 => ?_
  refine hr W F0 σ ρ F2 H2 x y dx dy _ _ o2 (r1.mono s2) r2 e3 fun v F3 H3 o3 s3 r3 => ⟨k, rp_bl.mp r3, ?_⟩
  cases k with
  | true =>
    rw [if_pos rfl] at e
    obtain ⟨dw, e5, e⟩ := R.of_bind e
    refine iteT (hc W F0 σ ρ F3 H3 dw _ o3 e5 fun w F4 H4 o4 s4 r4 => ?_)
    exact hr' W F0 σ ρ F4 H4 y w dy dw d Q o4 ((r2.mono s3).mono s4) r4 e fun v F5 H5 o5 s5 r5 => q v F5 H5 o5 ((((s1.trans s2).trans s3).trans s4).trans s5) r5
  | false =>
    have e6 : D.bl false = d := by simpa using e
    subst e6
    exact iteF (q _ F3 H3 o3 ((s1.trans s2).trans s3) (rp_bl.mpr rfl))
theorem pd_chain {op op' : CmpOp} {r r' : R2} {g g' : D → D → R D} (ho : OpR X (compareOp op) r) (hr : DR2 X.K r g) (ho' : OpR X (compareOp op') r') (hr' : DR2 X.K r' g') (ha : PD X a ta fa) (hb : PD X b tb fb) (hc : PD X c tc fc)
    (hm : lastMarks [op, op'] [b, c] = false := by with_unfolding_all rfl) : PD X (.Compare a [op, op'] [b, c] pos) (tChain r r' ta tb tc) (eChain g g' fa fb fc) := ⟨pe_chain ho ho' ha.pe hb.pe hc.pe hm, de_chain hr hr' ha.de hb.de hc.de⟩
theorem ptd_chain {op op' : CmpOp} {r r' : R2} {g g' : D → D → R D} (ho : OpR X (compareOp op) r) (hr : DR2 X.K r g) (ho' : OpR X (compareOp op') r') (hr' : DR2 X.K r' g') (ha : PD X a ta fa) (hb : PD X b tb fb) (hc : PD X c tc fc)
    (hm : lastMarks [op, op'] [b, c] = false := by with_unfolding_all rfl) : PTD X (.Compare a [op, op'] [b, c] pos) (tTest (tChain r r' ta tb tc)) (tst (eChain g g' fa fb fc)) := ⟨pt_chain ho ho' ha.pe hb.pe hc.pe hm, dt_of (de_chain hr hr' ha.de hb.de hc.de)⟩
end
/-! arguments, displays -/
def eNil : En → R (List D) := fun _ => .ok []
def eCons (a : En → R D) (r : En → R (List D)) : En → R (List D) := fun ρ => a ρ >>= fun x => r ρ >>= fun xs => .ok (x :: xs)
def eTup (f : En → R (List D)) : En → R D := fun ρ => f ρ >>= fun ds => guardR (small ds.length) >>= fun _ => .ok (.tup ds)
def eLst (f : En → R (List D)) : En → R (List D) := fun ρ => f ρ >>= fun ds => guardR (small ds.length) >>= fun _ => .ok ds
section
variable {X : Cx} {pos : Pos} {e : Expr} {es : List Expr} {te : TE} {t : TA} {fe : En → R D} {f : En → R (List D)}
theorem pad_nil : PAD X [] tNil eNil := ⟨pa_nil, fun W F0 σ ρ F H ds Q o e q => by cases e; exact q [] F H o (Same.refl _) .nil⟩
theorem pad_cons (ha : PD X e te fe) (hr : PAD X es t f) (hs : starEach (e :: es) X.env = (false, eval e X.env) :: starEach es X.env := by rfl) : PAD X (e :: es) (tCons te t) (eCons fe f) := by
  refine ⟨pa_cons ha.pe hr.pe hs, fun W F0 σ ρ F H ds Q o e q => ?_⟩
  obtain ⟨x, e1, e⟩ := R.of_bind e
  obtain ⟨xs, e2, e⟩ := R.of_bind e
  cases e
  refine ha.de W F0 σ ρ F H x _ o e1 fun v F1 H1 o1 s1 r1 => ?_
  exact hr.de W F0 σ ρ F1 H1 xs _ o1 e2 fun vs F2 H2 o2 s2 r2 => q _ F2 H2 o2 (s1.trans s2) (.cons (r1.mono s2) r2)
theorem pd_tup {x1} (h : PAD X es t f) : PD X (.Tuple es x1 pos) (tTup t) (eTup f) := by
  refine ⟨pe_tup h.pe, fun W F0 σ ρ F H d Q o e q => ?_⟩
  obtain ⟨ds, e1, e⟩ := R.of_bind e
  obtain ⟨u, e2, e⟩ := R.of_bind e
  cases e
  refine h.de W F0 σ ρ F H ds _ o e1 fun vs F1 H1 o1 s1 r1 => ⟨by rw [r1.length]; exact of_small (of_guard e2), fun p hp => ?_⟩
  have s := same_upd (u := .tup vs) (o1.free hp).1
  exact q _ _ _ (o1.push _ hp) (s1.trans s) (rp_tup.mpr ⟨p, vs, rfl, upd_same, r1.mono s⟩)
theorem pf_lst (h : PAD X es t f) : PF X (.List es pos) (tLst t) (eLst f) := by
  refine ⟨pe_lst h.pe, fun W F0 σ ρ F H d Q o e q => ?_⟩
  obtain ⟨ds, e1, e⟩ := R.of_bind e
  obtain ⟨u, e2, e⟩ := R.of_bind e
  cases e
  refine h.de W F0 σ ρ F H _ _ o e1 fun vs F1 H1 o1 s1 r1 => ⟨by rw [r1.length]; exact of_small (of_guard e2), fun p hp => ?_⟩
  exact q p vs F1 _ (o1.pushH _ hp) s1 upd_same (o1.free hp).1 (o1.free hp).2 (o1.apart hp) r1
end
end DD

namespace DD
open PySem PySem.Spec PyProof.Rows L2
variable [Iota]

/-! ### built-in calls -/
def eCall (g : List D → R D) (f : En → R (List D)) : En → R D := fun ρ => f ρ >>= g
def DCl (K : PySem.W.Frag) (r : List V → Hp → VK → Prop) (g : List D → R D) : Prop := ∀ (W F0 : Hp) (σ : L2.St) (ρ : En) (F H : Hp) (vs : List V) (ds : List D) (d : D) (Q : VK), Ok K W F0 σ ρ F H → Rps K F vs ds → g ds = .ok d →
  (∀ v F' H', Ok K W F0 σ ρ F' H' → Same F F' → Rp K F' v d → Q v H') → r vs H Q
/-- .. of a list (perhaps owned) -/
def DCo (K : PySem.W.Frag) (r : List V → Hp → VK → Prop) (g : List D → R D) : Prop := ∀ (W F0 : Hp) (σ : L2.St) (ρ : En) (F H : Hp) (p : Addr) (vs : List V) (ds : List D) (d : D) (Q : VK), Ok K W F0 σ ρ F H → H p = some (.lst vs) → Rps K F vs ds → g ds = .ok d →
  (∀ v F' H', Ok K W F0 σ ρ F' H' → Same F F' → Rp K F' v d → Q v H') → r [.ref p] H Q
/-- .. with a new list as the answer -/
def DCf (K : PySem.W.Frag) (r : List V → Hp → VK → Prop) (g : List D → R (List D)) : Prop := ∀ (W F0 : Hp) (σ : L2.St) (ρ : En) (F H : Hp) (vs : List V) (ds es : List D) (Q : VK), Ok K W F0 σ ρ F H → Rps K F vs ds → g ds = .ok es →
  (∀ p ws F' H', Ok K W F0 σ ρ F' H' → Same F F' → H' p = some (.lst ws) → F' p = none → W p = none → Apart σ ρ p → Rps K F' ws es → Q (.ref p) H') → r vs H Q
theorem de_call {K : PySem.W.Frag} {r : List V → Hp → VK → Prop} {g : List D → R D} {t : TA} {f : En → R (List D)} (hr : DCl K r g) (h : DAs K t f) : DE K (tCB r t) (eCall g f) := fun W F0 σ ρ F H d Q o e q => by
  obtain ⟨ds, e1, e2⟩ := R.of_bind e
  exact h W F0 σ ρ F H ds _ o e1 fun vs F1 H1 o1 s1 r1 => hr W F0 σ ρ F1 H1 vs ds d Q o1 r1 e2 fun v F2 H2 o2 s2 r2 => q v F2 H2 o2 (s1.trans s2) r2
theorem de_callO {K : PySem.W.Frag} {r : List V → Hp → VK → Prop} {g : List D → R D} {t : TE} {f : En → R (List D)} (hr : DCo K r g) (h : DLs K t f) : DE K (tCB r (tCons t tNil)) (eCall g f) := fun W F0 σ ρ F H d Q o e q => by
  obtain ⟨ds, e1, e2⟩ := R.of_bind e
  exact h W F0 σ ρ F H ds _ o e1 fun p vs F1 H1 o1 s1 hp r1 => hr W F0 σ ρ F1 H1 p vs ds d Q o1 hp r1 e2 fun v F2 H2 o2 s2 r2 => q v F2 H2 o2 (s1.trans s2) r2
theorem df_call {K : PySem.W.Frag} {r : List V → Hp → VK → Prop} {g : List D → R (List D)} {t : TA} {f : En → R (List D)} (hr : DCf K r g) (h : DAs K t f) : DF K (tCB r t) (fun ρ => f ρ >>= g) := fun W F0 σ ρ F H d Q o e q => by
  obtain ⟨ds, e1, e2⟩ := R.of_bind e
  exact h W F0 σ ρ F H ds _ o e1 fun vs F1 H1 o1 s1 r1 => hr W F0 σ ρ F1 H1 vs ds d Q o1 r1 e2 fun p vs F2 H2 o2 s2 a b c d r2 => q p vs F2 H2 o2 (s1.trans s2) a b c d r2
section
variable {X : Cx} {x : Str} {p pos : Pos} {e : Expr} {es : List Expr} {t : TA} {te : TE} {f : En → R (List D)} {id T : String} {r : List V → Hp → VK → Prop} {g : List D → R D} {gl : List D → R (List D)}
theorem pd_callB (hc : CallR X (.builtin id) r) (hr : DCl X.K r g) (hm : X.mg x = none) (hv : bootBuiltins x = some (.builtin id)) (ha : PAD X (e :: es) t f) (hg : Gl X x := by rfl) (hn : x ≠ "__name__" := by decide) (hdb : (x == ("__debug__" : Str)) = false := by decide)
    (he : starEach (e :: es) X.env = (false, eval e X.env) :: starEach es X.env := by rfl) (hpl : (backTo pos (starEach es X.env)).any (·.1) = false := by rfl) : PD X (.Call (.Name x p) (e :: es) [] pos) (tCB r t) (eCall g f) :=
  ⟨pe_callB hc hg hm hv ha.pe hn hdb he hpl, de_call hr ha.de⟩
theorem pd_callT (hc : CallR X (.type T) r) (hr : DCl X.K r g) (hm : X.mg x = none) (hv : bootBuiltins x = some (.type T)) (ha : PAD X (e :: es) t f) (hg : Gl X x := by rfl) (hn : x ≠ "__name__" := by decide) (hdb : (x == ("__debug__" : Str)) = false := by decide)
    (he : starEach (e :: es) X.env = (false, eval e X.env) :: starEach es X.env := by rfl) (hpl : (backTo pos (starEach es X.env)).any (·.1) = false := by rfl) : PD X (.Call (.Name x p) (e :: es) [] pos) (tCB r t) (eCall g f) :=
  ⟨pe_callTy hc hg hm hv ha.pe hn hdb he hpl, de_call hr ha.de⟩
theorem pd_callBO (hc : CallR X (.builtin id) r) (hr : DCo X.K r g) (hm : X.mg x = none) (hv : bootBuiltins x = some (.builtin id)) (ha : PL X e te f) (hg : Gl X x := by rfl) (hn : x ≠ "__name__" := by decide) (hdb : (x == ("__debug__" : Str)) = false := by decide)
    (he : starEach [e] X.env = (false, eval e X.env) :: starEach [] X.env := by rfl) (hpl : (backTo pos (starEach [] X.env)).any (·.1) = false := by rfl) : PD X (.Call (.Name x p) [e] [] pos) (tCB r (tCons te tNil)) (eCall g f) :=
  ⟨pe_callB hc hg hm hv (pa_cons ha.pe pa_nil he) hn hdb he hpl, de_callO hr ha.de⟩
theorem pd_callTO (hc : CallR X (.type T) r) (hr : DCo X.K r g) (hm : X.mg x = none) (hv : bootBuiltins x = some (.type T)) (ha : PL X e te f) (hg : Gl X x := by rfl) (hn : x ≠ "__name__" := by decide) (hdb : (x == ("__debug__" : Str)) = false := by decide)
    (he : starEach [e] X.env = (false, eval e X.env) :: starEach [] X.env := by rfl) (hpl : (backTo pos (starEach [] X.env)).any (·.1) = false := by rfl) : PD X (.Call (.Name x p) [e] [] pos) (tCB r (tCons te tNil)) (eCall g f) :=
  ⟨pe_callTy hc hg hm hv (pa_cons ha.pe pa_nil he) hn hdb he hpl, de_callO hr ha.de⟩
theorem pf_callT (hc : CallR X (.type T) r) (hr : DCf X.K r gl) (hm : X.mg x = none) (hv : bootBuiltins x = some (.type T)) (ha : PAD X (e :: es) t f) (hg : Gl X x := by rfl) (hn : x ≠ "__name__" := by decide) (hdb : (x == ("__debug__" : Str)) = false := by decide)
    (he : starEach (e :: es) X.env = (false, eval e X.env) :: starEach es X.env := by rfl) (hpl : (backTo pos (starEach es X.env)).any (·.1) = false := by rfl) : PF X (.Call (.Name x p) (e :: es) [] pos) (tCB r t) (fun ρ => f ρ >>= gl) :=
  ⟨pe_callTy hc hg hm hv ha.pe hn hdb he hpl, df_call hr ha.de⟩
end
/-! one argument -/
def d1 (g : D → R D) : List D → R D
  | [d] => g d
  | _ => .bad
theorem dc1 {K : PySem.W.Frag} {r : List V → Hp → VK → Prop} {g : D → R D} (h : ∀ (W F0 : Hp) (σ : L2.St) (ρ : En) (F H : Hp) (v : V) (d e : D) (Q : VK), Ok K W F0 σ ρ F H → Rp K F v d → g d = .ok e →
    (∀ v F' H', Ok K W F0 σ ρ F' H' → Same F F' → Rp K F' v e → Q v H') → r [v] H Q) : DCl K r (d1 g) := fun W F0 σ ρ F H vs ds d Q o rv e q => by
  unfold d1 at e
  split at e
  · obtain ⟨y, ys, rfl, r1, r2⟩ := rv.of_cons
    cases r2.of_nil
    exact h W F0 σ ρ F H y _ d Q o r1 e q
  · cases e
def d2 (g : D → D → R D) : List D → R D
  | [d, e] => g d e
  | _ => .bad
theorem dc2 {K : PySem.W.Frag} {r : List V → Hp → VK → Prop} {g : D → D → R D} (h : ∀ (W F0 : Hp) (σ : L2.St) (ρ : En) (F H : Hp) (v w : V) (d d' e : D) (Q : VK), Ok K W F0 σ ρ F H → Rp K F v d → Rp K F w d' → g d d' = .ok e →
    (∀ v F' H', Ok K W F0 σ ρ F' H' → Same F F' → Rp K F' v e → Q v H') → r [v, w] H Q) : DCl K r (d2 g) := fun W F0 σ ρ F H vs ds d Q o rv e q => by
  unfold d2 at e
  split at e
  · obtain ⟨y, ys, rfl, r1, r2⟩ := rv.of_cons
    obtain ⟨z, zs, rfl, r3, r4⟩ := r2.of_cons
    cases r4.of_nil
    exact h W F0 σ ρ F H y z _ _ d Q o r1 r3 e q
  · cases e
/-! len -/
def dLen1 : D → R D
  | .str z => guardR (small z.length) >>= fun _ => .ok (.int z.length)
  | .tup ds => .ok (.int ds.length)
  | .lst ds => .ok (.int ds.length)
  | .rol ds => .ok (.int ds.length)
  | _ => .bad
def dLen := d1 dLen1
def dLenL (ds : List D) : R D := .ok (.int ds.length)
def rLen (K : PySem.W.Frag) : List V → Hp → VK → Prop := fun xs H Q => ∃ x n, xs = [x] ∧ LenV K x H n ∧ Q (.int n) H
theorem cr_len {X : Cx} : CallR X (.builtin "len") (rLen X.K) := call_len
theorem dc_len {K : PySem.W.Frag} : DCl K (rLen K) dLen := dc1 fun W F0 σ ρ F H v d e Q o r h q => by
  unfold dLen1 at h
  split at h
  · obtain ⟨u, g, h⟩ := R.of_bind h
    cases h; cases rp_str.mp r
    exact ⟨_, _, rfl, ⟨of_small (of_guard g), rfl⟩, q _ F H o (Same.refl _) (rp_int.mpr rfl)⟩
  · cases h
    obtain ⟨a, xs, rfl, ha, r⟩ := rp_tup.mp r
    exact ⟨_, xs.length, rfl, .inr ⟨xs, Same.seqT o.sub ha, rfl⟩, q _ F H o (Same.refl _) (rp_int.mpr (by rw [r.length]))⟩
  · cases h
    obtain ⟨a, xs, rfl, ha, r⟩ := rp_lst.mp r
    exact ⟨_, xs.length, rfl, .inl ⟨xs, SqL.of (o.sub _ _ ha), rfl⟩, q _ F H o (Same.refl _) (rp_int.mpr (by rw [r.length]))⟩
  · cases h
    obtain ⟨a, xs, rfl, ha, r⟩ := rp_rol.mp r
    exact ⟨_, xs.length, rfl, .inl ⟨xs, o.sub.seq ha, rfl⟩, q _ F H o (Same.refl _) (rp_int.mpr (by rw [r.length]))⟩
  · cases h
theorem dco_len {K : PySem.W.Frag} : DCo K (rLen K) dLenL := fun W F0 σ ρ F H p vs ds d Q o hp r h q => by
  cases h
  exact ⟨_, vs.length, rfl, .inl ⟨vs, SqL.of hp, rfl⟩, q _ F H o (Same.refl _) (rp_int.mpr (by rw [r.length]))⟩
/-! abs, int, str -/
def dAbs := d1 fun | .int i => .ok (.int (if i < 0 then -i else i)) | _ => .bad
def rAbs : List V → Hp → VK → Prop := fun xs H Q => ∃ i, xs = [.int i] ∧ Q (.int (if i < 0 then -i else i)) H
theorem cr_abs {X : Cx} : CallR X (.builtin "abs") rAbs := call_abs
theorem dc_abs {K : PySem.W.Frag} : DCl K rAbs dAbs := dc1 fun W F0 σ ρ F H v d e Q o r h q => by
  split at h
  · cases h; cases rp_int.mp r
    exact ⟨_, rfl, q _ F H o (Same.refl _) (rp_int.mpr rfl)⟩
  · cases h
def dInt := d1 fun
  | .int i => .ok (.int i)
  | .bl b => .ok (.int (if b then 1 else 0))
  | .str s => match PySem.intText? s with
    | some n => guardR (decide (s.length ≤ 640)) >>= fun _ => .ok (.int n)
    | none => .bad
  | _ => .bad
def rInt : List V → Hp → VK → Prop := fun xs H Q => ((∃ i, xs = [.int i] ∧ Q (.int i) H) ∨ ∃ k, xs = [.bl k] ∧ Q (.int (if k then 1 else 0)) H) ∨ (∃ a n, xs = [.str a] ∧ PySem.intText? a = some n ∧ a.length ≤ 640 ∧ Q (.int n) H)
theorem cr_int {X : Cx} : CallR X (.type "int") rInt := call_int1.or call_int_str
theorem dc_int {K : PySem.W.Frag} : DCl K rInt dInt := dc1 fun W F0 σ ρ F H v d e Q o r h q => by
  split at h
  · cases h; cases rp_int.mp r
    exact .inl (.inl ⟨_, rfl, q _ F H o (Same.refl _) (rp_int.mpr rfl)⟩)
  · cases h; cases rp_bl.mp r
    exact .inl (.inr ⟨_, rfl, q _ F H o (Same.refl _) (rp_int.mpr rfl)⟩)
  · split at h
    · rename_i n hn
      obtain ⟨u, g, h⟩ := R.of_bind h
      cases h; cases rp_str.mp r
      exact .inr ⟨_, _, rfl, hn, of_decide_eq_true (of_guard g), q _ F H o (Same.refl _) (rp_int.mpr rfl)⟩
    · cases h
  · cases h
def bits (i : Int) : Bool := decide (i.natAbs.log2 < 1920)
def dStr := d1 fun
  | .int i => guardR (bits i) >>= fun _ => .ok (.str (toString i))
  | .str s => .ok (.str s)
  | _ => .bad
def rStr : List V → Hp → VK → Prop := fun xs H Q => (∃ i : Int, xs = [.int i] ∧ i.natAbs.log2 < 1920 ∧ Q (.str (toString i)) H) ∨ ∃ a, xs = [.str a] ∧ Q (.str a) H
theorem cr_str {X : Cx} : CallR X (.type "str") rStr := CallR.or (r := fun xs H Q => ∃ i : Int, xs = [.int i] ∧ i.natAbs.log2 < 1920 ∧ Q (.str (toString i)) H) call_str_int SkE.call_str_str
theorem dc_str {K : PySem.W.Frag} : DCl K rStr dStr := dc1 fun W F0 σ ρ F H v d e Q o r h q => by
  split at h
  · obtain ⟨u, g, h⟩ := R.of_bind h
    cases h; cases rp_int.mp r
    exact .inl ⟨_, rfl, of_decide_eq_true (of_guard g), q _ F H o (Same.refl _) (rp_str.mpr rfl)⟩
  · cases h; cases rp_str.mp r
    exact .inr ⟨_, rfl, q _ F H o (Same.refl _) (rp_str.mpr rfl)⟩
  · cases h
/-! min of a list, min and max of two -/
def asInts : List D → R (List Int)
  | [] => .ok []
  | .int i :: r => asInts r >>= fun is => .ok (i :: is)
  | _ :: _ => .bad
theorem asInts_ok : ∀ {ds : List D} {is : List Int}, asInts ds = .ok is → ds = is.map D.int
  | [], is, h => by cases h; rfl
  | d :: r, is, h => by
    cases d <;> first | (cases h; done) | skip
    obtain ⟨js, h1, h2⟩ := R.of_bind h
    cases h2
    rw [asInts_ok h1]
    rfl
theorem rps_ints {K : PySem.W.Frag} {F : Hp} : ∀ {vs : List V} {is : List Int}, Rps K F vs (is.map D.int) → vs = is.map V.int
  | vs, [], h => h.of_nil
  | vs, i :: is, h => by
    obtain ⟨y, ys, rfl, r1, r2⟩ := h.of_cons
    cases rp_int.mp r1
    rw [rps_ints r2]
    rfl
def lmin : List Int → Int
  | [] => 0
  | [a] => a
  | a :: b :: r => min a (lmin (b :: r))
theorem lmin_spec : ∀ {l : List Int}, l ≠ [] → lmin l ∈ l ∧ ∀ y ∈ l, lmin l ≤ y
  | [], h => absurd rfl h
  | [a], _ => ⟨by simp [lmin], fun y hy => by simp at hy; subst hy; simp [lmin]⟩
  | a :: b :: r, _ => by
    obtain ⟨h1, h2⟩ := lmin_spec (l := b :: r) (by simp)
    show min a (lmin (b :: r)) ∈ _ ∧ ∀ y ∈ _, min a (lmin (b :: r)) ≤ y
    refine ⟨?_, fun y hy => ?_⟩
    · by_cases c : a ≤ lmin (b :: r)
      · rw [Int.min_eq_left c]; exact List.mem_cons_self
      · rw [Int.min_eq_right (by omega)]; exact List.mem_cons_of_mem _ h1
    · rcases List.mem_cons.mp hy with rfl | hy
      · exact Int.min_le_left _ _
      · exact Int.le_trans (Int.min_le_right _ _) (h2 y hy)
def dMinL (ds : List D) : R D := asInts ds >>= fun is => match is with
  | [] => .bad
  | a :: r => .ok (.int (lmin (a :: r)))
theorem dco_min {K : PySem.W.Frag} : DCo K (rMin K) dMinL := fun W F0 σ ρ F H p vs ds d Q o hp r h q => by
  obtain ⟨is, h1, h2⟩ := R.of_bind h
  cases is with
  | nil => cases h2
  | cons a l =>
    cases h2
    cases asInts_ok h1
    have e := rps_ints (is := a :: l) r
    subst e
    refine ⟨p, a :: l, rfl, SqL.of hp, by simp, fun m hm hle => ?_⟩
    obtain ⟨g1, g2⟩ := lmin_spec (l := a :: l) (by simp)
    have e : m = lmin (a :: l) := Int.le_antisymm (hle _ g1) (g2 m hm)
    subst e
    exact q _ F H o (Same.refl _) (rp_int.mpr rfl)
/-! all, any -/
def asBls : List D → R (List Bool)
  | [] => .ok []
  | .bl i :: r => asBls r >>= fun is => .ok (i :: is)
  | _ :: _ => .bad
theorem asBls_ok : ∀ {ds : List D} {is : List Bool}, asBls ds = .ok is → ds = is.map D.bl
  | [], is, h => by cases h; rfl
  | d :: r, is, h => by
    cases d <;> first | (cases h; done) | skip
    obtain ⟨js, h1, h2⟩ := R.of_bind h
    cases h2
    rw [asBls_ok h1]
    rfl
theorem rps_bls {K : PySem.W.Frag} {F : Hp} : ∀ {vs : List V} {is : List Bool}, Rps K F vs (is.map D.bl) → vs = is.map V.bl
  | vs, [], h => h.of_nil
  | vs, i :: is, h => by
    obtain ⟨y, ys, rfl, r1, r2⟩ := h.of_cons
    cases rp_bl.mp r1
    rw [rps_bls r2]
    rfl
def dAll (ds : List D) : R D := asBls ds >>= fun bs => .ok (.bl (bs.all id))
def dAny (ds : List D) : R D := asBls ds >>= fun bs => .ok (.bl (bs.any id))
theorem dco_all {K : PySem.W.Frag} : DCo K (rAll K) dAll := fun W F0 σ ρ F H p vs ds d Q o hp r h q => by
  obtain ⟨bs, h1, h2⟩ := R.of_bind h
  cases h2
  cases asBls_ok h1
  have e := rps_bls r
  subst e
  exact ⟨p, bs, rfl, SqL.of hp, q _ F H o (Same.refl _) (rp_bl.mpr rfl)⟩
theorem dco_any {K : PySem.W.Frag} : DCo K (rAny K) dAny := fun W F0 σ ρ F H p vs ds d Q o hp r h q => by
  obtain ⟨bs, h1, h2⟩ := R.of_bind h
  cases h2
  cases asBls_ok h1
  have e := rps_bls r
  subst e
  exact ⟨p, bs, rfl, SqL.of hp, q _ F H o (Same.refl _) (rp_bl.mpr rfl)⟩
/-! tuple(list), list(..) -/
def rTupO (K : PySem.W.Frag) : List V → Hp → VK → Prop := fun xs H Q => ∃ p ys, xs = [.ref p] ∧ ((SqL K H p ys ∧ ∀ l, H l = none → Q (.ref l) (upd H l (.tup ys))) ∨ (SqT K H p ys ∧ Q (.ref p) H))
theorem cr_tuple {X : Cx} : CallR X (.type "tuple") (rTupO X.K) := call_tuple_of
def dTupL (ds : List D) : R D := .ok (.tup ds)
theorem dco_tuple {K : PySem.W.Frag} : DCo K (rTupO K) dTupL := fun W F0 σ ρ F H p vs ds d Q o hp r h q => by
  cases h
  refine ⟨p, vs, rfl, .inl ⟨SqL.of hp, fun l hl => ?_⟩⟩
  have s := same_upd (u := .tup vs) (o.free hl).1
  exact q _ _ _ (o.push _ hl) s (rp_tup.mpr ⟨l, vs, rfl, upd_same, r.mono s⟩)
def rLstO (K : PySem.W.Frag) : List V → Hp → VK → Prop := fun xs H Q => ∃ p ys, xs = [.ref p] ∧ (SqL K H p ys ∨ SqT K H p ys) ∧ ∀ l, H l = none → Q (.ref l) (upd H l (.lst ys))
theorem cr_list {X : Cx} : CallR X (.type "list") (rLstO X.K) := call_list_of
def dList : List D → R (List D)
  | [.tup ds] => .ok ds
  | [.lst ds] => .ok ds
  | _ => .bad
theorem dcf_list {K : PySem.W.Frag} : DCf K (rLstO K) dList := fun W F0 σ ρ F H vs ds es Q o r h q => by
  unfold dList at h
  split at h
  · cases h
    obtain ⟨y, ys, rfl, r1, r2⟩ := r.of_cons
    cases r2.of_nil
    obtain ⟨a, xs, rfl, ha, r⟩ := rp_tup.mp r1
    exact ⟨a, xs, rfl, .inr (Same.seqT o.sub ha), fun l hl => q l xs F _ (o.pushH _ hl) (Same.refl _) upd_same (o.free hl).1 (o.free hl).2 (o.apart hl) r⟩
  · cases h
    obtain ⟨y, ys, rfl, r1, r2⟩ := r.of_cons
    cases r2.of_nil
    obtain ⟨a, xs, rfl, ha, r⟩ := rp_lst.mp r1
    exact ⟨a, xs, rfl, .inl (SqL.of (o.sub _ _ ha)), fun l hl => q l xs F _ (o.pushH _ hl) (Same.refl _) upd_same (o.free hl).1 (o.free hl).2 (o.apart hl) r⟩
  · cases h
/-! isinstance(x, T), T a built-in type -/
def tyName : D → String
  | .non => "NoneType" | .bl _ => "bool" | .int _ => "int" | .str _ => "str" | .tup _ => "tuple" | .lst _ => "list" | .rol _ => "list" | .dic _ _ => "dict" | _ => "?"
def isRef : D → Bool
  | .ref _ => true
  | .clr _ => true
  | .ktup _ => true
  | .ty _ => true
  | .exn _ _ _ => true
  | _ => false
theorem tyx_of {K : PySem.W.Frag} {F : Hp} {v : V} {d : D} (hn : isRef d = false) (r : Rp K F v d) : TyX K F v (.type (tyName d)) := by
  cases d with
  | ref n => cases hn
  | clr n => cases hn
  | ktup n => cases hn
  | ty n => cases hn
  | exn _ _ _ => cases hn
  | non => cases rp_non.mp r; exact .base .non
  | bl b => cases rp_bl.mp r; exact .base (.bl _)
  | int b => cases rp_int.mp r; exact .base (.int _)
  | str b => cases rp_str.mp r; exact .base (.str _)
  | tup ds =>
    obtain ⟨a, xs, rfl, ha, r⟩ := rp_tup.mp r
    exact .base (.tup ha)
  | lst ds =>
    obtain ⟨a, xs, rfl, ha, r⟩ := rp_lst.mp r
    exact .base (.lst ha)
  | rol ds =>
    obtain ⟨a, xs, rfl, ha, r⟩ := rp_rol.mp r
    rcases ha with (h | ⟨o, h⟩) | ⟨o, its, n, hk, hc, _⟩
    · exact .base (.lst h)
    · exact .base (.frz h)
    · exact .kList hk hc
  | dic ks ds =>
    obtain ⟨a, xs, rfl, ha, _, r⟩ := rp_dic.mp r
    exact .base (.dK ha)
theorem TyX.mono {K : PySem.W.Frag} {H H' : Hp} {v : V} {n : String} (s : Same H H') (h : TyX K H v (.type n)) : TyX K H' v (.type n) := by
  cases h with
  | base h =>
    cases h with
    | non => exact .base .non
    | bl b => exact .base (.bl b)
    | int b => exact .base (.int b)
    | str b => exact .base (.str b)
    | flt b => exact .base (.flt b)
    | lst e => exact .base (.lst (s _ _ e))
    | frz e => exact .base (.frz (s _ _ e))
    | tup e => exact .base (.tup (s _ _ e))
    | dK e => exact .base (.dK (s _ _ e))
    | dT e => exact .base (.dT (s _ _ e))
  | byt b => exact .byt b
  | set e => exact .set (s _ _ e)
  | kList e c => exact .kList e c
  | kTuple e c => exact .kTuple e c
  | kDict e c => exact .kDict e c
  | fTuple e => exact .fTuple (s _ _ e)
  | fDict e => exact .fDict (s _ _ e)
def dIsi (T : String) (d : D) : R D := if isRef d = true then .bad else match kitB (tyName d) T with
  | some b => .ok (.bl b)
  | none => .bad
theorem pd_isi {X : Cx} {a : Expr} {T : String} {Tx : Str} {ta : TE} {fa : En → R D} {p p2 pos : Pos} (hm : X.mg "isinstance" = none) (hmT : X.mg Tx = none) (hv : bootBuiltins Tx = some (.type T)) (ha : PD X a ta fa) (hg : Gl X "isinstance" := by rfl) (hgT : Gl X Tx := by rfl)
    (hn : Tx ≠ "__name__" := by decide) (hdb : (Tx == ("__debug__" : Str)) = false := by decide)
    (he : starEach [a, .Name Tx p2] X.env = (false, eval a X.env) :: starEach [.Name Tx p2] X.env := by rfl) (he2 : starEach [.Name Tx p2] X.env = (false, eval (.Name Tx p2) X.env) :: starEach [] X.env := by rfl) (hpl : (backTo pos (starEach [.Name Tx p2] X.env)).any (·.1) = false := by rfl) :
    PD X (.Call (.Name "isinstance" p) [a, .Name Tx p2] [] pos) (tCB (rIsi X.K) (tCons ta (tCons (tC (.ty T)) tNil))) (fun ρ => fa ρ >>= dIsi T) := by
  refine ⟨pe_callB call_isi hg hm PyProof.Rows.boot_isinstance (pa_cons ha.pe (pa_cons (pe_bltn (v := .ty T) hgT hmT hv rfl hn hdb) pa_nil he2) he) (by decide) (by decide) he hpl, fun W F0 σ ρ F H d Q o e q => ?_⟩
  obtain ⟨x, e1, e2⟩ := R.of_bind e
  refine ha.de W F0 σ ρ F H x _ o e1 fun v F1 H1 o1 s1 r1 => ?_
  unfold dIsi at e2
  split at e2
  · cases e2
  rename_i hrf
  have hrf : isRef x = false := by simpa using hrf
  split at e2
  · rename_i b hb
    cases e2
    exact ⟨v, .ty T, _, _, b, rfl, .ty T, TyX.mono o1.sub (tyx_of hrf r1), kit_ty hb, q _ F1 H1 o1 s1 (rp_bl.mpr rfl)⟩
  · cases e2
/-! ### subscripts -/
def atR {α : Type} (xs : List α) (i : Int) : R α := match atI xs i with
  | some x => .ok x
  | none => .bad
def dIx : D → D → R D
  | .tup ds, .int i => atR ds i
  | .lst ds, .int i => atR ds i
  | .rol ds, .int i => atR ds i
  | .str z, .int i => guardR (small z.length) >>= fun _ => atR z.cps.toList i >>= fun c => .ok (.str ⟨#[c]⟩)
  | _, _ => .bad
theorem atR_ok {α : Type} {xs : List α} {i : Int} {x : α} (h : atR xs i = .ok x) : atI xs i = some x := by
  unfold atR at h
  split at h
  · cases h; assumption
  · cases h
theorem rps_at {K : PySem.W.Frag} {F : Hp} {vs : List V} {ds : List D} {i : Int} {d : D} (r : Rps K F vs ds) (h : atI ds i = some d) : ∃ v, atI vs i = some v ∧ Rp K F v d := by
  unfold atI at h ⊢
  rw [r.length]
  obtain ⟨j, h1, h2⟩ := Option.bind_eq_some_iff.mp h
  obtain ⟨v, h3, h4⟩ := r.get h2
  exact ⟨v, by rw [h1]; exact h3, h4⟩
theorem dr_ix {K : PySem.W.Frag} : DR2 K (rIx K) dIx := fun W F0 σ ρ F H x y dx dy d Q o rx ry e q => by
  unfold dIx at e
  split at e
  · obtain ⟨a, xs, rfl, ha, r⟩ := rp_tup.mp rx
    cases rp_int.mp ry
    obtain ⟨v, hv, rv⟩ := rps_at r (atR_ok e)
    exact .inr (.inl ⟨a, xs, _, v, rfl, rfl, Same.seqT o.sub ha, hv, q _ F H o (Same.refl _) rv⟩)
  · obtain ⟨a, xs, rfl, ha, r⟩ := rp_lst.mp rx
    cases rp_int.mp ry
    obtain ⟨v, hv, rv⟩ := rps_at r (atR_ok e)
    exact .inl ⟨a, xs, _, v, rfl, rfl, SqL.of (o.sub _ _ ha), hv, q _ F H o (Same.refl _) rv⟩
  · obtain ⟨a, xs, rfl, ha, r⟩ := rp_rol.mp rx
    cases rp_int.mp ry
    obtain ⟨v, hv, rv⟩ := rps_at r (atR_ok e)
    exact .inl ⟨a, xs, _, v, rfl, rfl, o.sub.seq ha, hv, q _ F H o (Same.refl _) rv⟩
  · obtain ⟨u, g, e⟩ := R.of_bind e
    obtain ⟨c, e1, e2⟩ := R.of_bind e
    cases e2
    cases rp_str.mp rx
    cases rp_int.mp ry
    exact .inr (.inr ⟨_, _, c, rfl, rfl, of_small (of_guard g), atR_ok e1, q _ F H o (Same.refl _) (rp_str.mpr rfl)⟩)
  · cases e
section
variable {X : Cx} {pos : Pos} {a b : Expr} {ta tb : TE} {fa fb : En → R D} {fl : En → R (List D)}
theorem pd_ix (ha : PD X a ta fa) (hb : PD X b tb fb) (hs : PlainIx b := by exact fun _ _ => rfl) : PD X (.Subscript a b pos) (tOp (rIx X.K) ta tb) (eBin dIx fa fb) := ⟨pe_ix ix_seq ha.pe hb.pe hs, de_bin dr_ix ha.de hb.de⟩
def eIxO (fl : En → R (List D)) (fb : En → R D) : En → R D := fun ρ => fl ρ >>= fun ds => fb ρ >>= fun d => dIx (.lst ds) d
/-- an owned list's item; the index has no effect on what is owned -/
theorem pd_ixO {i : Nat} {x : Str} {p : Pos} (hN : X.N[i]? = some x := by rfl) (hv : Vis X.env.scope x := by first | exact Or.inl rfl | exact Or.inr (Or.inl rfl) | exact Or.inr (Or.inr rfl)) (hb : PD X b tb fb)
    (hd : (x == ("__debug__" : Str)) = false := by decide) (hcd : (x == ("__classdict__" : Str)) = false := by decide) (hs : PlainIx b := by exact fun _ _ => rfl) : PD X (.Subscript (.Name x p) b pos) (tOp (rIx X.K) (tVar i) tb) (eIxO (eOwn i) fb) := by
  refine ⟨pe_ix ix_seq (pe_var hN hv hd hcd) hb.pe hs, fun W F0 σ ρ F H d Q o e q => ?_⟩
  obtain ⟨ds, e1, e⟩ := R.of_bind e
  obtain ⟨k, e2, e3⟩ := R.of_bind e
  unfold eOwn at e1
  split at e1
  · rename_i ds' hd'
    cases e1
    obtain ⟨y, h1, p', vs, ey, hp, hf, hw, r⟩ := slot_at o hd'
    refine ⟨.ref p', by rw [h1, ey], ?_⟩
    refine hb.de W F0 σ ρ F H k _ o e2 fun w F1 H1 o1 s1 r1 => ?_
    obtain ⟨y2, h2, p2, vs2, ey2, hp2, hf2, hw2, r2⟩ := slot_at o1 hd'
    rw [h1] at h2
    cases h2
    rw [ey] at ey2
    cases ey2
    unfold dIx at e3
    split at e3
    · rename_i z; cases z
    · rename_i z; cases z
      cases rp_int.mp r1
      obtain ⟨v, hv', rv⟩ := rps_at r2 (atR_ok e3)
      exact .inl ⟨_, _, _, v, rfl, rfl, SqL.of hp2, hv', q _ F1 H1 o1 s1 rv⟩
    · rename_i z; cases z
    · rename_i z; cases z
    · cases e3
  · cases e1
end
/-! slices -/
def cutD (xs : List D) (lo hi : Option Int) : List D := (xs.drop (HT.sIx xs.length 0 lo)).take (HT.sIx xs.length xs.length hi - HT.sIx xs.length 0 lo)
theorem rps_cut {K : PySem.W.Frag} {F : Hp} {vs : List V} {ds : List D} (r : Rps K F vs ds) (lo hi : Option Int) : Rps K F (cutV vs lo hi) (cutD ds lo hi) := by
  unfold cutV cutD
  rw [r.length]
  exact (r.drop _).take _
def DO (K : PySem.W.Frag) (t : TO) (f : En → R (Option Int)) : Prop := ∀ (W F0 : Hp) (σ : L2.St) (ρ : En) (F H : Hp) (b : Option Int) (Q : Option Int → Hp → Prop), Ok K W F0 σ ρ F H → f ρ = .ok b →
  (∀ F' H', Ok K W F0 σ ρ F' H' → Same F F' → Q b H') → t σ H Q
structure POD (X : Cx) (e : Option Expr) (t : TO) (f : En → R (Option Int)) : Prop where
  pe : PO X e t
  de : DO X.K t f
def oNone : En → R (Option Int) := fun _ => .ok none
def asI : D → R (Option Int)
  | .int i => .ok (some i)
  | _ => .bad
def oSome (f : En → R D) : En → R (Option Int) := fun ρ => f ρ >>= asI
def dSl : D → Option Int → Option Int → R D
  | .str z, lo, hi => guardR (small z.length) >>= fun _ => .ok (.str (cutS z lo hi))
  | .tup ds, lo, hi => .ok (.tup (cutD ds lo hi))
  | .lst ds, lo, hi => .ok (.lst (cutD ds lo hi))
  | .rol ds, lo, hi => .ok (.lst (cutD ds lo hi))
  | _, _, _ => .bad
def eSl (f : En → R D) (l h : En → R (Option Int)) : En → R D := fun ρ => f ρ >>= fun x => l ρ >>= fun lo => h ρ >>= fun hi => dSl x lo hi
def eSlL (f : En → R (List D)) (l h : En → R (Option Int)) : En → R (List D) := fun ρ => f ρ >>= fun x => l ρ >>= fun lo => h ρ >>= fun hi => .ok (cutD x lo hi)
def rSlAll (K : PySem.W.Frag) : V → Option Int → Option Int → Hp → VK → Prop := fun x lo hi H Q => rSlS x lo hi H Q ∨ (rSlA K x lo hi H Q ∨ rSlL K x lo hi H Q)
section
variable {X : Cx} {pos p2 : Pos} {e : Expr} {lo hi : Option Expr} {te : TE} {tl th : TO} {f : En → R D} {fL : En → R (List D)} {l h : En → R (Option Int)}
theorem sl_all : SlR X (rSlAll X.K) := sl_str.or (sl_tupA.or sl_list)
theorem pod_none : POD X none tNoPart oNone := ⟨po_none, fun W F0 σ ρ F H b Q o e q => by cases e; exact q F H o (Same.refl _)⟩
theorem pod_some {e : Expr} (he : PD X e te f) : POD X (some e) (tPart te) (oSome f) := ⟨po_some he.pe, fun W F0 σ ρ F H b Q o e q => by
  obtain ⟨d, e1, e2⟩ := R.of_bind e
  refine he.de W F0 σ ρ F H d _ o e1 fun v F1 H1 o1 s1 r1 => ?_
  cases d <;> first | (cases e2; done) | skip
  cases e2
  exact ⟨_, rp_int.mp r1, q F1 H1 o1 s1⟩⟩
theorem cutV_whole {xs : List V} {lo hi : Option Int} (h : HT.sIx xs.length 0 lo = 0 ∧ HT.sIx xs.length xs.length hi = xs.length) : cutV xs lo hi = xs := by
  unfold cutV
  rw [h.1, h.2, List.drop_zero, Nat.sub_zero, List.take_length]
theorem pd_slice (he : PD X e te f) (hl : POD X lo tl l) (hh : POD X hi th h) : PD X (.Subscript e (.Slice lo hi none p2) pos) (tSl (rSlAll X.K) te tl th) (eSl f l h) := by
  refine ⟨pe_slice sl_all he.pe hl.pe hh.pe, fun W F0 σ ρ F H d Q o e q => ?_⟩
  obtain ⟨x, e1, e'⟩ := R.of_bind e
  obtain ⟨lo', e2, e''⟩ := R.of_bind e'
  obtain ⟨hi', e3, e4⟩ := R.of_bind e''
  refine he.de W F0 σ ρ F H x _ o e1 fun v F1 H1 o1 s1 r1 => ?_
  refine hl.de W F0 σ ρ F1 H1 lo' _ o1 e2 fun F2 H2 o2 s2 => ?_
  refine hh.de W F0 σ ρ F2 H2 hi' _ o2 e3 fun F3 H3 o3 s3 => ?_
  have r3 := (r1.mono s2).mono s3
  have ss := (s1.trans s2).trans s3
  unfold dSl at e4
  split at e4
  · obtain ⟨u, g, e4⟩ := R.of_bind e4
    cases e4
    cases rp_str.mp r3
    exact .inl ⟨_, rfl, of_small (of_guard g), q _ F3 H3 o3 ss (rp_str.mpr rfl)⟩
  · cases e4
    obtain ⟨a, xs, rfl, ha, r⟩ := rp_tup.mp r3
    refine .inr (.inl ⟨a, xs, rfl, Same.seqT o3.sub ha, fun hw => ?_, fun _ p hp => ?_⟩)
    · have rc := rps_cut r lo' hi'
      rw [cutV_whole hw] at rc
      exact q _ F3 H3 o3 ss (rp_tup.mpr ⟨a, xs, rfl, ha, rc⟩)
    · have s := same_upd (u := .tup (cutV xs lo' hi')) (o3.free hp).1
      exact q _ _ _ (o3.push _ hp) (ss.trans s) (rp_tup.mpr ⟨p, _, rfl, upd_same, (rps_cut r lo' hi').mono s⟩)
  · cases e4
    obtain ⟨a, xs, rfl, ha, r⟩ := rp_lst.mp r3
    refine .inr (.inr ⟨a, xs, rfl, SqL.of (o3.sub _ _ ha), fun p hp => ?_⟩)
    have s := same_upd (u := .lst (cutV xs lo' hi')) (o3.free hp).1
    exact q _ _ _ (o3.push _ hp) (ss.trans s) (rp_lst.mpr ⟨p, _, rfl, upd_same, (rps_cut r lo' hi').mono s⟩)
  · cases e4
    obtain ⟨a, xs, rfl, ha, r⟩ := rp_rol.mp r3
    refine .inr (.inr ⟨a, xs, rfl, o3.sub.seq ha, fun p hp => ?_⟩)
    have s := same_upd (u := .lst (cutV xs lo' hi')) (o3.free hp).1
    exact q _ _ _ (o3.push _ hp) (ss.trans s) (rp_lst.mpr ⟨p, _, rfl, upd_same, (rps_cut r lo' hi').mono s⟩)
  · cases e4
/-- a slice of an owned list's name -/
theorem pf_sliceO {i : Nat} {x : Str} {p : Pos} (hl : POD X lo tl l) (hh : POD X hi th h) (hN : X.N[i]? = some x := by rfl) (hv : Vis X.env.scope x := by first | exact Or.inl rfl | exact Or.inr (Or.inl rfl) | exact Or.inr (Or.inr rfl))
    (hd : (x == ("__debug__" : Str)) = false := by decide) (hcd : (x == ("__classdict__" : Str)) = false := by decide) :
    PF X (.Subscript (.Name x p) (.Slice lo hi none p2) pos) (tSl (rSlAll X.K) (tVar i) tl th) (eSlL (eOwn i) l h) := by
  refine ⟨pe_slice sl_all (pe_var hN hv hd hcd) hl.pe hh.pe, fun W F0 σ ρ F H ds Q o e q => ?_⟩
  obtain ⟨ds0, e1, e'⟩ := R.of_bind e
  obtain ⟨lo', e2, e''⟩ := R.of_bind e'
  obtain ⟨hi', e3, e4⟩ := R.of_bind e''
  cases e4
  unfold eOwn at e1
  split at e1
  · rename_i ds' hd'
    cases e1
    obtain ⟨y, h1, p', vs, ey, hp, hf, hw, r⟩ := slot_at o hd'
    refine ⟨.ref p', by rw [h1, ey], ?_⟩
    refine hl.de W F0 σ ρ F H lo' _ o e2 fun F2 H2 o2 s2 => ?_
    refine hh.de W F0 σ ρ F2 H2 hi' _ o2 e3 fun F3 H3 o3 s3 => ?_
    obtain ⟨y2, h2, p2, vs2, ey2, hp2, hf2, hw2, r2⟩ := slot_at o3 hd'
    rw [h1] at h2
    cases h2
    rw [ey] at ey2
    cases ey2
    refine .inr (.inr ⟨_, _, rfl, SqL.of hp2, fun l' hl' => ?_⟩)
    exact q l' _ F3 _ (o3.pushH _ hl') (s2.trans s3) upd_same (o3.free hl').1 (o3.free hl').2 (o3.apart hl') (rps_cut r2 lo' hi')
  · cases e1
/-- a + b, lists, one of them a slice, a display, ..: a new list -/
def eCat (f g : En → R (List D)) : En → R (List D) := fun ρ => f ρ >>= fun xs => g ρ >>= fun ys => guardR (small (xs.length + ys.length)) >>= fun _ => .ok (xs ++ ys)
theorem pf_cat {a b : Expr} {ta tb : TE} {fa fb : En → R (List D)} (ha : PF X a ta fa) (hb : PF X b tb fb) : PF X (.BinOp a .Add b pos) (tOp (rAddA X.K) ta tb) (eCat fa fb) := by
  refine ⟨pe_op op_addA ha.pe hb.pe, fun W F0 σ ρ F H ds Q o e q => ?_⟩
  obtain ⟨xs, e1, e'⟩ := R.of_bind e
  obtain ⟨ys, e2, e''⟩ := R.of_bind e'
  obtain ⟨u, g, e3⟩ := R.of_bind e''
  cases e3
  refine ha.de W F0 σ ρ F H xs _ o e1 fun p1 vs1 F1 H1 o1 s1 h1 f1 w1 ap1 r1 => ?_
  have s' : Same F1 (upd F1 p1 (.lst vs1)) := same_upd f1
  have o1' := o1.freezeAt h1 f1 w1 ap1
  refine hb.de W F0 σ ρ _ H1 ys _ o1' e2 fun p2 vs2 F2 H2 o2 s2 h2 f2 w2 ap2 r2 => ?_
  have k1 := o2.sub _ _ (s2 _ _ (upd_same (H := F1) (a := p1) (o := .lst vs1)))
  have r1' := (r1.mono s').mono s2
  refine .inr (.inr (.inr ⟨p1, p2, vs1, vs2, rfl, rfl, k1, h2, by rw [r1'.length, r2.length]; exact of_small (of_guard g), fun l hl => ?_⟩))
  exact q l _ F2 _ (o2.pushH _ hl) ((s1.trans s').trans s2) upd_same (o2.free hl).1 (o2.free hl).2 (o2.apart hl) (r1'.append r2)
end
/-! text[::-1] -/
def revS (z : Str) : Str := ⟨z.cps.toList.reverse.toArray⟩
def tRevS (te : TE) : TE := fun σ H Q => te σ H fun x H1 => ∃ z, x = .str z ∧ z.length ≤ sizeLine ∧ Q (.str (revS z)) H1
theorem sliceBy_rev (x : Str) (u : Tok) : Txt.sliceBy x none none (-1, u) = revS x := by
  refine str_ext_getD (by rw [step_rev_len]; simp [revS, Str.length]) fun i hi => ?_
  rw [step_rev_len] at hi
  rw [step_rev_getD x u i hi]
  unfold revS
  have h1 : i < x.cps.toList.reverse.length := by simpa [Str.length] using hi
  have h2 : x.length - 1 - i < x.cps.size := by have : x.length = x.cps.size := rfl; omega
  simp only [Array.getD_eq_getD_getElem?, List.getElem?_toArray]
  rw [List.getElem?_eq_getElem h1, List.getElem_reverse]
  have h3 : x.cps[x.length - 1 - i]? = some x.cps[x.length - 1 - i] := Array.getElem?_eq_getElem h2
  rw [h3]
  simp [Str.length]
section
variable {X : Cx} {e : Expr} {te : TE} {k : Nat} {p1 p2 p3 pos : Pos}
theorem pe_revS (he : PE X e te) : PE X (.Subscript e (.Slice none none (some (.UnaryOp .USub (.Constant (.int 1) k p1) p2)) p3) pos) (tRevS te) := by
  refine ⟨fun pins s σ H Q I h => ?_⟩
  refine Subscript_ (thn (he.run pins s σ H _ I h) fun v s1 ⟨x, H1, I1, r1, q1⟩ => ?_)
  obtain ⟨z, ex, hz, q⟩ := q1
  subst ex
  obtain ⟨t, rfl⟩ := r1
  have hst : PO X (some (.UnaryOp .USub (.Constant (.int 1) k p1) p2)) (tPart (tUn (rU fun i => .int (-i)) (tC (.int 1)))) := po_some (pe_un un_neg pe_int)
  refine wpAny_Slice (thn (po_none.run pins s1 σ H1 (fun o H2 => o = none ∧ H2 = H1) I1 ⟨rfl, rfl⟩) fun vl s2 ⟨l, H2, I2, pl, el, e2⟩ => ?_)
  subst el e2
  refine thn (po_none.run pins s2 σ H2 (fun o H3 => o = none ∧ H3 = H2) I2 ⟨rfl, rfl⟩) fun vu s3 ⟨u, H3, I3, pu, eu, e3⟩ => ?_
  subst eu e3
  refine thn (hst.run pins s3 σ H3 (fun o H4 => o = some (-1) ∧ H4 = H3) I3 ⟨1, rfl, -1, rfl, rfl, rfl⟩) fun vs s4 ⟨o, H4, I4, ps, eo, e4⟩ => ?_
  subst eo e4
  have I5 : Inv X pins σ H4 { s4 with heap := s4.heap.push { cls := .type "slice", data := .fields #[vl, vu, vs] } } := I4.kept (t' := s4.toks) fun b ob q => Heap.get?_push_of_some _ q
  obtain ⟨l, rfl, el⟩ := IsPart.raw pl
  obtain ⟨u, rfl, eu⟩ := IsPart.raw pu
  obtain ⟨st, rfl, es⟩ := IsPart.raw ps
  cases l with
  | some _ => cases el
  | none =>
  cases u with
  | some _ => cases eu
  | none =>
  cases st with
  | none => cases es
  | some st =>
  obtain ⟨j, tj⟩ := st
  have ej : j = -1 := by simpa using es
  subst ej
  show wpAny (model X.prog X.w) X.A (subscriptTail e (.Slice none none (some (.UnaryOp .USub (.Constant (.int 1) k p1) p2)) p3) (.str z t) (.ref s4.heap.objs.size)) (EP X pins σ Q) X.xe _
  refine tail_any (ops := [.ref s4.heap.objs.size, .str z t]) (typeIs_str _ _ _) F.slot_str_getitem.lookup ?_ (by with_unfolding_all rfl)
  refine wpAny_getItem_str_slice (l := none) (u := none) (st := some (-1, tj)) ⟨_, Heap.get?_push_size _ rfl, rfl, rfl⟩ rfl ?_
  have hr := sliceBy_rev z tj
  have hl : (revS z).length ≤ sizeLine := by
    have : (revS z).length = z.length := by simp [revS, Str.length]
    rw [this]; exact hz
  unfold Txt.sliceBy slicePicked at hr
  rw [if_neg (by
    have : ((((some ((-1 : Int), tj)).map (·.1)).getD 1 == 1)) = false := rfl
    rw [this]; simp)] at hr
  show Made.post (if (((-1 : Int) == 1) && (Builtin.Str.strSliceIndices none none (-1) z.length).length == z.length) = true then Made.val (.str z t)
    else Made.str ⟨((Builtin.Str.strSliceIndices none none (-1) z.length).filterMap (z.cps[·]?)).toArray⟩) (EP X pins σ Q) _
  rw [if_neg (by
    have : (((-1 : Int) == 1)) = false := rfl
    rw [this]; simp)]
  have hr' : (⟨((Builtin.Str.strSliceIndices none none (-1) z.length).filterMap (z.cps[·]?)).toArray⟩ : Str) = revS z := hr
  rw [hr']
  exact ⟨hl, .str _, H4, I5.tok _, ⟨_, rfl⟩, q⟩
def dRev : D → R D
  | .str z => guardR (small z.length) >>= fun _ => .ok (.str (revS z))
  | _ => .bad
theorem pd_revS {f : En → R D} (he : PD X e te f) : PD X (.Subscript e (.Slice none none (some (.UnaryOp .USub (.Constant (.int 1) k p1) p2)) p3) pos) (tRevS te) (fun ρ => f ρ >>= dRev) := by
  refine ⟨pe_revS he.pe, fun W F0 σ ρ F H d Q o e q => ?_⟩
  obtain ⟨x, e1, e2⟩ := R.of_bind e
  refine he.de W F0 σ ρ F H x _ o e1 fun v F1 H1 o1 s1 r1 => ?_
  cases x <;> first | (cases e2; done) | skip
  obtain ⟨u, g, e3⟩ := R.of_bind e2
  cases e3
  exact ⟨_, rp_str.mp r1, of_small (of_guard g), q _ F1 H1 o1 s1 (rp_str.mpr rfl)⟩
end
end DD

namespace DD
open PySem PySem.Spec PyProof.Rows L2
variable [Iota]

/-! ### what is walked -/
def Walks (K : PySem.W.Frag) (F : Hp) (J : It) (ds : List D) : Prop := ∀ (F2 H2 : Hp), Same F F2 → Same F2 H2 → ∀ i : Nat, (i = ds.length → J.stop i H2) ∧
  ∀ d, ds[i]? = some d → J.go i H2 ∧ ∀ x H3, J.yld i H2 x H3 → (H3 = H2 ∧ Rp K F2 x d) ∨ ∃ p u, H2 p = none ∧ H3 = upd H2 p u ∧ Rp K (upd F2 p u) x d
def DI (K : PySem.W.Frag) (wi : TI) (f : En → R (List D)) : Prop := ∀ (W F0 : Hp) (σ : L2.St) (ρ : En) (F H : Hp) (ds : List D) (Rk : It → Hp → Prop), Ok K W F0 σ ρ F H → f ρ = .ok ds →
  (∀ J F' H', Ok K W F0 σ ρ F' H' → Same F F' → Walks K F' J ds → Rk J H') → wi σ H Rk
structure PID (X : Cx) (tg iter : Expr) (wi : TI) (f : En → R (List D)) : Prop where
  pe : PI X tg iter wi
  de : DI X.K wi f
section
variable {X : Cx} {tg l : Expr} {tl : TE} {f : En → R D}
def asLst : D → R (List D)
  | .lst ds => .ok ds
  | _ => .bad
def asTup : D → R (List D)
  | .tup ds => .ok ds
  | _ => .bad
def chars (z : Str) : List D := z.cps.toList.map fun c => D.str ⟨#[c]⟩
def asChs : D → R (List D)
  | .str z => .ok (chars z)
  | _ => .bad
theorem pid_list (h : PD X l tl f) : PID X tg l (iList X.K tl) (fun ρ => f ρ >>= asLst) := by
  refine ⟨pi_list h.pe, fun W F0 σ ρ F H ds Rk o e q => ?_⟩
  obtain ⟨d, e1, e2⟩ := R.of_bind e
  refine h.de W F0 σ ρ F H d _ o e1 fun v F1 H1 o1 s1 r1 => ?_
  cases d <;> first | (cases e2; done) | skip
  cases e2
  obtain ⟨a, xs, rfl, ha, r⟩ := rp_lst.mp r1
  refine ⟨a, rfl, ⟨xs, SqL.of (o1.sub _ _ ha)⟩, q _ F1 H1 o1 s1 fun F2 H2 s2 s3 i => ⟨fun hi => ?_, fun d hd => ?_⟩⟩
  · exact ⟨xs, SqL.of (s3 _ _ (s2 _ _ ha)), by rw [r.length, hi]; exact Nat.le_refl _⟩
  · obtain ⟨v, hv, rv⟩ := r.get hd
    refine ⟨⟨xs, v, SqL.of (s3 _ _ (s2 _ _ ha)), hv⟩, fun x H3 hy => .inl ⟨hy.1, ?_⟩⟩
    have e := hy.2 xs (SqL.of (s3 _ _ (s2 _ _ ha)))
    rw [hv] at e
    cases e
    exact rv.mono s2
theorem pid_tup (h : PD X l tl f) : PID X tg l (iTup X.K tl) (fun ρ => f ρ >>= asTup) := by
  refine ⟨pi_tup h.pe, fun W F0 σ ρ F H ds Rk o e q => ?_⟩
  obtain ⟨d, e1, e2⟩ := R.of_bind e
  refine h.de W F0 σ ρ F H d _ o e1 fun v F1 H1 o1 s1 r1 => ?_
  cases d <;> first | (cases e2; done) | skip
  cases e2
  obtain ⟨a, xs, rfl, ha, r⟩ := rp_tup.mp r1
  refine ⟨a, rfl, ⟨xs, Same.seqT o1.sub ha⟩, q _ F1 H1 o1 s1 fun F2 H2 s2 s3 i => ⟨fun hi => ?_, fun d hd => ?_⟩⟩
  · exact ⟨xs, Same.seqT (s2.trans s3) ha, by rw [r.length, hi]; exact Nat.le_refl _⟩
  · obtain ⟨v, hv, rv⟩ := r.get hd
    refine ⟨⟨xs, v, Same.seqT (s2.trans s3) ha, hv⟩, fun x H3 hy => .inl ⟨hy.1, ?_⟩⟩
    have e := hy.2 xs (Same.seqT (s2.trans s3) ha)
    rw [hv] at e
    cases e
    exact rv.mono s2
theorem pid_str (h : PD X l tl f) : PID X tg l (iStr tl) (fun ρ => f ρ >>= asChs) := by
  refine ⟨pi_str h.pe, fun W F0 σ ρ F H ds Rk o e q => ?_⟩
  obtain ⟨d, e1, e2⟩ := R.of_bind e
  refine h.de W F0 σ ρ F H d _ o e1 fun v F1 H1 o1 s1 r1 => ?_
  cases d <;> first | (cases e2; done) | skip
  cases e2
  rename_i z
  refine ⟨z, rp_str.mp r1, q _ F1 H1 o1 s1 fun F2 H2 s2 s3 i => ⟨fun hi => ?_, fun d hd => ?_⟩⟩
  · show z.cps.size ≤ i
    rw [hi]; simp [chars]
  · have hi : i < z.cps.size := by
      have := (List.getElem?_eq_some_iff.mp hd).1
      simpa [chars] using this
    refine ⟨hi, fun x H3 hy => .inl ⟨hy.1, ?_⟩⟩
    obtain ⟨c, hc, rfl⟩ := hy.2
    unfold chars at hd
    rw [List.getElem?_map, Array.getElem?_toList, hc] at hd
    cases hd
    exact rp_str.mpr rfl
/-- 0, 1, .. below n; lo, .. below hi -/
def rngD (lo : Int) (n : Nat) : List D := (List.range n).map fun (k : Nat) => D.int (lo + (k : Int))
theorem walks_rng {K : PySem.W.Frag} {F : Hp} (lo : Int) (n : Nat) : Walks K F (Itr lo n) (rngD lo n) := fun F2 H2 s2 s3 i => by
  refine ⟨fun hi => ?_, fun d hd => ?_⟩
  · show n ≤ i
    rw [hi]; simp [rngD]
  · have hi : i < n := by
      have := (List.getElem?_eq_some_iff.mp hd).1
      simpa [rngD] using this
    refine ⟨hi, fun x H3 hy => .inl ⟨hy.1, ?_⟩⟩
    unfold rngD at hd
    rw [List.getElem?_map, List.getElem?_range hi] at hd
    cases hd
    rw [hy.2]
    exact rp_int.mpr rfl
def in62 (i : Int) : Bool := decide (-(2 ^ 62) ≤ i) && decide (i < 2 ^ 62)
theorem of_in62 {i : Int} (h : in62 i = true) : -(2 ^ 62) ≤ i ∧ i < 2 ^ 62 := by
  unfold in62 at h
  rw [Bool.and_eq_true] at h
  exact ⟨of_decide_eq_true h.1, of_decide_eq_true h.2⟩
def dRng1 : List D → R (List D)
  | [.int j] => guardR (in62 j) >>= fun _ => .ok (rngD 0 j.toNat)
  | _ => .bad
def dRng2 : List D → R (List D)
  | [.int i, .int j] => guardR (in62 i && in62 j) >>= fun _ => .ok (rngD i (j - i).toNat)
  | _ => .bad
theorem pid_range1 {a : Expr} {ta : TA} {fa : En → R (List D)} {p pos : Pos} (hm : X.mg "range" = none) (ha : PAD X [a] ta fa) (hg : Gl X "range" := by rfl) (hs : starEach [a] X.env = [(false, eval a X.env)] := by rfl) : PID X tg (.Call (.Name "range" p) [a] [] pos) (iRng1 ta) (fun ρ => fa ρ >>= dRng1) := by
  refine ⟨pi_range1 hg hm ha.pe hs, fun W F0 σ ρ F H ds Rk o e q => ?_⟩
  obtain ⟨xs, e1, e2⟩ := R.of_bind e
  refine ha.de W F0 σ ρ F H xs _ o e1 fun vs F1 H1 o1 s1 r1 => ?_
  unfold dRng1 at e2
  split at e2
  · obtain ⟨u, g, e3⟩ := R.of_bind e2
    cases e3
    obtain ⟨y, ys, rfl, r2, r3⟩ := r1.of_cons
    cases r3.of_nil
    cases rp_int.mp r2
    exact ⟨_, rfl, (of_in62 (of_guard g)).1, (of_in62 (of_guard g)).2, q _ F1 H1 o1 s1 (walks_rng _ _)⟩
  · cases e2
theorem pid_range2 {a b : Expr} {ta : TA} {fa : En → R (List D)} {p pos : Pos} (hm : X.mg "range" = none) (ha : PAD X [a, b] ta fa) (hg : Gl X "range" := by rfl) (hs : starEach [a, b] X.env = [(false, eval a X.env), (false, eval b X.env)] := by rfl) (hs2 : starEach [b] X.env = [(false, eval b X.env)] := by rfl) :
    PID X tg (.Call (.Name "range" p) [a, b] [] pos) (iRng2 ta) (fun ρ => fa ρ >>= dRng2) := by
  refine ⟨pi_range2 hg hm ha.pe hs hs2, fun W F0 σ ρ F H ds Rk o e q => ?_⟩
  obtain ⟨xs, e1, e2⟩ := R.of_bind e
  refine ha.de W F0 σ ρ F H xs _ o e1 fun vs F1 H1 o1 s1 r1 => ?_
  unfold dRng2 at e2
  split at e2
  · obtain ⟨u, g, e3⟩ := R.of_bind e2
    cases e3
    obtain ⟨y, ys, rfl, r2, r3⟩ := r1.of_cons
    obtain ⟨z, zs, rfl, r4, r5⟩ := r3.of_cons
    cases r5.of_nil
    cases rp_int.mp r2
    cases rp_int.mp r4
    have g' := of_guard g
    rw [Bool.and_eq_true] at g'
    exact ⟨_, _, rfl, ⟨(of_in62 g'.1).1, (of_in62 g'.1).2, (of_in62 g'.2).1, (of_in62 g'.2).2⟩, q _ F1 H1 o1 s1 (walks_rng _ _)⟩
  · cases e2
end

/-! ### targets -/
def DG (K : PySem.W.Frag) (g : TG) (ix : List Nat) (f : D → En → R En) : Prop := ∀ (W F0 : Hp) (σ : L2.St) (ρ ρ' : En) (F H : Hp) (v : V) (d : D) (Q : L2.St → Hp → Prop), Ok K W F0 σ ρ F H → Rp K F v d → f d ρ = .ok ρ' →
  (∀ σ', Ok K W F0 σ' ρ' F H → σ'.length = σ.length → (∀ i, i ∉ ix → σ'[i]? = σ[i]? ∧ ρ'[i]? = ρ[i]?) → Q σ' H) → g v σ H Q
structure PGD (X : Cx) (tg : Expr) (g : TG) (ix : List Nat) (f : D → En → R En) : Prop where
  pe : PG X tg g
  de : DG X.K g ix f
def DGs (K : PySem.W.Frag) (g : TGs) (ix : List Nat) (f : List D → En → R En) : Prop := ∀ (W F0 : Hp) (σ : L2.St) (ρ ρ' : En) (F H : Hp) (vs : List V) (ds : List D) (Q : L2.St → Hp → Prop), Ok K W F0 σ ρ F H → Rps K F vs ds → f ds ρ = .ok ρ' →
  (∀ σ', Ok K W F0 σ' ρ' F H → σ'.length = σ.length → (∀ i, i ∉ ix → σ'[i]? = σ[i]? ∧ ρ'[i]? = ρ[i]?) → Q σ' H) → g vs σ H Q
structure PGsD (X : Cx) (ts : List Expr) (g : TGs) (ix : List Nat) (f : List D → En → R En) : Prop where
  pe : PGs X ts g
  de : DGs X.K g ix f
def tgN (i : Nat) : D → En → R En := fun d ρ => .ok (ρ.set i (.fz d))
def tgsNil : List D → En → R En := fun ds ρ => match ds with
  | [] => .ok ρ
  | _ => .bad
def tgsCons (f : D → En → R En) (g : List D → En → R En) : List D → En → R En := fun ds ρ => match ds with
  | d :: r => f d ρ >>= fun ρ' => g r ρ'
  | _ => .bad
def tgT (n : Nat) (f : List D → En → R En) : D → En → R En := fun d ρ => match d with
  | .tup ds => guardR (ds.length == n) >>= fun _ => f ds ρ
  | .ktup ds => guardR (ds.length == n) >>= fun _ => f ds ρ
  | _ => .bad
section
variable {X : Cx} {pos : Pos}
theorem pgd_name {i : Nat} {x : Str} (hN : X.N.Nodup) (hi : X.N[i]? = some x := by rfl) (hx : Loc X.env.scope x := by first | exact Or.inl rfl | exact Or.inr rfl) (hf : X.fn x = true ∨ X.env.scope.names.lookup x = some .local := by first | exact .inl rfl | exact .inr rfl | assumption) :
    PGD X (.Name x pos) (gName i) [i] (tgN i) := by
  refine ⟨pg_name hN hi hx hf, fun W F0 σ ρ ρ' F H v d Q o r e q => ?_⟩
  cases e
  refine q _ (o.setF i r) (List.length_set ..) fun j hj => ?_
  have n : i ≠ j := fun z => hj (by simp [z])
  exact ⟨List.getElem?_set_ne n, List.getElem?_set_ne n⟩
theorem pgsd_nil : PGsD X [] gNil [] tgsNil := by
  refine ⟨pgs_nil, fun W F0 σ ρ ρ' F H vs ds Q o r e q => ?_⟩
  unfold tgsNil at e
  split at e
  · cases e
    exact ⟨r.of_nil, q σ o rfl fun _ _ => ⟨rfl, rfl⟩⟩
  · cases e
theorem pgsd_cons {e : Expr} {es : List Expr} {t : TG} {u : TGs} {ix ix' : List Nat} {f : D → En → R En} {g : List D → En → R En} (h1 : PGD X e t ix f) (h2 : PGsD X es u ix' g)
    (hs : (assignEach (e :: es) X.env).map (·.2) = assign e X.env :: (assignEach es X.env).map (·.2) := by rfl) : PGsD X (e :: es) (gCons t u) (ix ++ ix') (tgsCons f g) := by
  refine ⟨pgs_cons h1.pe h2.pe hs, fun W F0 σ ρ ρ' F H vs ds Q o r e q => ?_⟩
  unfold tgsCons at e
  split at e
  · obtain ⟨ρ1, e1, e2⟩ := R.of_bind e
    obtain ⟨y, ys, rfl, r1, r2⟩ := r.of_cons
    refine ⟨y, ys, rfl, h1.de W F0 σ ρ ρ1 F H y _ _ o r1 e1 fun σ1 o1 l1 k1 => ?_⟩
    refine h2.de W F0 σ1 ρ1 ρ' F H ys _ _ o1 r2 e2 fun σ2 o2 l2 k2 => q σ2 o2 (l2.trans l1) fun i hi => ?_
    have a := k2 i fun z => hi (List.mem_append_right _ z)
    have b := k1 i fun z => hi (List.mem_append_left _ z)
    exact ⟨a.1.trans b.1, a.2.trans b.2⟩
  · cases e
theorem pgd_tup {es : List Expr} {k : Nat} {t : TGs} {ix : List Nat} {n : Nat} {f : List D → En → R En} (hc : X.calm = true) (h : PGsD X es t ix f)
    (hn : (assignEach es X.env).length = n := by rfl) (hst : (assignEach es X.env).findIdx? (·.1) = none := by rfl) : PGD X (.Tuple es k pos) (gTup X.K n t) ix (tgT n f) := by
  refine ⟨pg_tup hc h.pe hn hst, fun W F0 σ ρ ρ' F H v d Q o r e q => ?_⟩
  unfold tgT at e
  split at e
  · obtain ⟨u, g, e2⟩ := R.of_bind e
    obtain ⟨a, xs, rfl, ha, r⟩ := rp_tup.mp r
    exact ⟨a, xs, rfl, Same.seqT o.sub ha, by rw [r.length]; exact beq_iff_eq.mp (of_guard g), h.de W F0 σ ρ ρ' F H xs _ Q o r e2 q⟩
  · obtain ⟨u, g, e2⟩ := R.of_bind e
    obtain ⟨a, xs, rfl, ha, r⟩ := rp_ktup.mp r
    exact ⟨a, xs, rfl, Same.kseqT o.sub ha, by rw [r.length]; exact beq_iff_eq.mp (of_guard g), h.de W F0 σ ρ ρ' F H xs _ Q o r e2 q⟩
  · cases e
end

/-! ### list comprehensions -/
def wipeE (ρ : En) : List Nat → En
  | [] => ρ
  | v :: vs => (wipeE ρ vs).set v .un
theorem wipeE_length (ρ : En) : ∀ vs : List Nat, (wipeE ρ vs).length = ρ.length
  | [] => rfl
  | v :: vs => by unfold wipeE; rw [List.length_set, wipeE_length ρ vs]
theorem wipeE_get {ρ : En} {i : Nat} : ∀ {vs : List Nat}, i ∉ vs → (wipeE ρ vs)[i]? = ρ[i]?
  | [], _ => rfl
  | v :: vs, h => by
    unfold wipeE
    rw [List.getElem?_set_ne (fun z => h (by simp [z]))]
    exact wipeE_get fun z => h (List.mem_cons_of_mem _ z)
theorem wipeE_un {ρ : En} {i : Nat} : ∀ {vs : List Nat}, i ∈ vs → i < ρ.length → (wipeE ρ vs)[i]? = some .un
  | v :: vs, h, hi => by
    unfold wipeE
    by_cases hv : v = i
    · subst hv
      rw [List.getElem?_set_self (by rw [wipeE_length]; exact hi)]
    · rw [List.getElem?_set_ne hv]
      rcases List.mem_cons.mp h with z | z
      · exact absurd z.symm hv
      · exact wipeE_un z hi
theorem wipe_get {σ : L2.St} {i : Nat} : ∀ {vs : List Nat}, i ∉ vs → (wipe σ vs)[i]? = σ[i]?
  | [], _ => rfl
  | v :: vs, h => by
    unfold wipe
    rw [List.getElem?_set_ne (fun z => h (by simp [z]))]
    exact wipe_get fun z => h (List.mem_cons_of_mem _ z)
theorem wipeE_same {ρ ρ' : En} {vs : List Nat} (hl : ρ'.length = ρ.length) (h : ∀ i, i ∉ vs → ρ'[i]? = (wipeE ρ vs)[i]?) : wipeE ρ' vs = wipeE ρ vs := by
  apply List.ext_getElem?
  intro i
  by_cases hi : i ∈ vs
  · by_cases hl' : i < ρ.length
    · rw [wipeE_un hi hl', wipeE_un hi (by rw [hl]; exact hl')]
    · rw [List.getElem?_eq_none (by rw [wipeE_length]; omega), List.getElem?_eq_none (by rw [wipeE_length]; omega)]
  · rw [wipeE_get hi]
    exact h i hi
theorem wipe_in {σ : L2.St} {i : Nat} : ∀ {vs : List Nat}, i ∈ vs → i < σ.length → (wipe σ vs)[i]? = some none
  | v :: vs, h, hi => by
    unfold wipe
    by_cases hv : v = i
    · subst hv
      rw [List.getElem?_set_self (by rw [wipe_length]; exact hi)]
    · rw [List.getElem?_set_ne hv]
      rcases List.mem_cons.mp h with z | z
      · exact absurd z.symm hv
      · exact wipe_in z hi
theorem wipe_same {σ σ' : L2.St} {vs : List Nat} (hl : σ'.length = σ.length) (h : ∀ i, i ∉ vs → σ'[i]? = (wipe σ vs)[i]?) : wipe σ' vs = wipe σ vs := by
  apply List.ext_getElem?
  intro i
  by_cases hi : i ∈ vs
  · by_cases hl' : i < σ.length
    · rw [wipe_in hi hl', wipe_in hi (by rw [hl]; exact hl')]
    · rw [List.getElem?_eq_none (by rw [wipe_length]; omega), List.getElem?_eq_none (by rw [wipe_length]; omega)]
  · rw [wipe_get hi]
    exact h i hi
section
variable {K : PySem.W.Frag} {W F0 F H F' H' : Hp} {σ : L2.St} {ρ : En}
theorem Ok.wipe (o : Ok K W F0 σ ρ F H) (vs : List Nat) : Ok K W F0 (L2.wipe σ vs) (wipeE ρ vs) F H := by
  refine ⟨o.toOkB, by rw [wipe_length, wipeE_length]; exact o.len, fun i x s h1 h2 => ?_, fun i j p ds ds' h1 h2 h3 h4 => ?_⟩
  · by_cases hi : i ∈ vs
    · have hl : i < ρ.length := by
        have := (List.getElem?_eq_some_iff.mp h2).1
        rwa [wipeE_length] at this
      rw [wipeE_un hi hl] at h2
      cases h2
      trivial
    · rw [wipe_get hi] at h1
      rw [wipeE_get hi] at h2
      exact o.slots i x s h1 h2
  · have out : ∀ {i : Nat} {ds : List D}, (wipeE ρ vs)[i]? = some (.ow ds) → i ∉ vs := fun {i ds} h hi => by
      have hl : i < ρ.length := by
        have := (List.getElem?_eq_some_iff.mp h).1
        rwa [wipeE_length] at this
      rw [wipeE_un hi hl] at h; cases h
    have a := out h1
    have b := out h2
    rw [wipeE_get a] at h1
    rw [wipeE_get b] at h2
    rw [wipe_get a] at h3
    rw [wipe_get b] at h4
    exact o.dist i j p ds ds' h1 h2 h3 h4
def noOwn (ρ : En) (vs : List Nat) : Bool := vs.all fun i => match ρ[i]? with
  | some (.ow _) => false
  | _ => true
theorem Ok.unwipe (o : Ok K W F0 σ ρ F H) {vs : List Nat} (n : noOwn ρ vs = true) (o' : Ok K W F0 (L2.wipe σ vs) (wipeE ρ vs) F' H') (s : Same F F') : Ok K W F0 σ ρ F' H' := by
  refine ⟨o'.toOkB, o.len, fun i x sl h1 h2 => ?_, o.dist⟩
  by_cases hi : i ∈ vs
  · have q := o.slots i x sl h1 h2
    have n' := List.all_eq_true.mp n i hi
    rw [h2] at n'
    cases sl with
    | un => trivial
    | fz d =>
      obtain ⟨v, e, r⟩ := q
      exact ⟨v, e, r.mono s⟩
    | ow ds => cases n'
  · exact o'.slots i x sl (by rw [wipe_get hi]; exact h1) (by rw [wipeE_get hi]; exact h2)
/-- what stands at p is nobody's: it may be kept as foreign -/
theorem Ok.guard {p : Addr} {u : HO} (o : Ok K W F0 σ ρ F H) (h : H p = some u) (f : F p = none) (ap : Apart σ ρ p) : Ok K (upd W p u) F0 σ ρ F H := by
  refine ⟨⟨o.sub, fun b x e => ?_, o.ext, fun b x nt e1 e2 => ?_⟩, o.len, fun i x s h1 h2 => ?_, o.dist⟩
  · by_cases hb : b = p
    · subst hb; rw [upd_same] at e; cases e; exact h
    · rw [upd_ne hb] at e; exact o.wld b x e
  · by_cases hb : b = p
    · subst hb; exact f
    · rw [upd_ne hb] at e1; exact o.new b x nt e1 e2
  · have q := o.slots i x s h1 h2
    cases s with
    | un => trivial
    | fz d => exact q
    | ow ds =>
      obtain ⟨p', vs, e, h', f', w, r⟩ := q
      refine ⟨p', vs, e, h', f', ?_, r⟩
      rw [upd_ne (fun z => ap i ds h2 (by rw [h1, e, z]))]
      exact w
theorem Ok.unguard {p : Addr} {u : HO} (o : Ok K (upd W p u) F0 σ ρ F H) (hw : W p = none) : Ok K W F0 σ ρ F H := by
  refine ⟨⟨o.sub, fun b x e => o.wld b x (by rw [upd_ne (ne_of_none e hw)]; exact e), o.ext, fun b x nt e1 e2 => o.new b x nt (by rw [upd_ne (ne_of_none e1 hw)]; exact e1) e2⟩, o.len, fun i x s h1 h2 => ?_, o.dist⟩
  have q := o.slots i x s h1 h2
  cases s with
  | un => trivial
  | fz d => exact q
  | ow ds =>
    obtain ⟨p', vs, e, h', f', w, r⟩ := q
    refine ⟨p', vs, e, h', f', ?_, r⟩
    by_cases hb : p' = p
    · subst hb; exact hw
    · rw [upd_ne hb] at w; exact w
/-- nobody's object is changed -/
theorem Ok.alter {p : Addr} {u : HO} (o : Ok K W F0 σ ρ F H) (f : F p = none) (hw : W p = none) (ap : Apart σ ρ p) : Ok K W F0 σ ρ F (upd H p u) := by
  refine ⟨⟨fun b x e => ?_, fun b x e => ?_, o.ext, o.new⟩, o.len, fun i x s h1 h2 => ?_, o.dist⟩
  · rw [upd_ne (ne_of_none e f)]; exact o.sub b x e
  · rw [upd_ne (ne_of_none e hw)]; exact o.wld b x e
  · have q := o.slots i x s h1 h2
    cases s with
    | un => trivial
    | fz d => exact q
    | ow ds =>
      obtain ⟨p', vs, e, h', f', w, r⟩ := q
      refine ⟨p', vs, e, ?_, f', w, r⟩
      rw [upd_ne (fun z => ap i ds h2 (by rw [h1, e, z]))]
      exact h'
theorem Apart.wipe {p : Addr} (h : Apart σ ρ p) (hl : σ.length = ρ.length) (vs : List Nat) : Apart (L2.wipe σ vs) (wipeE ρ vs) p := fun i ds e q => by
  by_cases hi : i ∈ vs
  · have hl : i < ρ.length := by
      have := (List.getElem?_eq_some_iff.mp e).1
      rwa [wipeE_length] at this
    rw [wipeE_un hi hl] at e; cases e
  · rw [wipeE_get hi] at e
    rw [wipe_get hi] at q
    exact h i ds e q
end
def compR (tg : D → En → R En) (test : En → R Bool) (elt : En → R D) (ρ : En) : List D → R (List D)
  | [] => .ok []
  | d :: ds => tg d ρ >>= fun ρ1 => test ρ1 >>= fun b => if b = true then elt ρ1 >>= fun x => compR tg test elt ρ ds >>= fun xs => .ok (x :: xs) else compR tg test elt ρ ds
def eComp (src : En → R (List D)) (vs : List Nat) (tg : D → En → R En) (test : En → R Bool) (elt : En → R D) : En → R (List D) := fun ρ =>
  src ρ >>= fun ds => guardR (noOwn ρ vs && decide (ds.length < 16777216)) >>= fun _ => compR tg test elt (wipeE ρ vs) ds
def bYes : En → R Bool := fun _ => .ok true
structure PTsD (X : Cx) (ifs : List Expr) (t : TT) (f : En → R Bool) : Prop where
  pe : PTs X ifs t
  de : DT X.K t f
section
variable {X : Cx}
theorem ptsd_nil : PTsD X [] tYes bYes := ⟨pts_nil, fun W F0 σ ρ F H b Q o e q => by cases e; exact q F H o (Same.refl _)⟩
theorem ptsd_one {c : Expr} {t : TT} {f : En → R Bool} (h : PTD X c t f) : PTsD X [c] t f := ⟨pts_one h.pe, h.de⟩
theorem take_succ {α : Type} {l : List α} {i : Nat} {x : α} (h : l[i]? = some x) : l.drop i = x :: l.drop (i + 1) := by
  obtain ⟨hi, e⟩ := List.getElem?_eq_some_iff.mp h
  rw [List.drop_eq_getElem_cons hi, e]
theorem df_lc {K : PySem.W.Frag} {wi : TI} {src : En → R (List D)} {g : TG} {ix : List Nat} {tgf : D → En → R En} {tt : TT} {test : En → R Bool} {te : TE} {elt : En → R D} {vs : List Nat}
    (hi : DI K wi src) (hg : DG K g ix tgf) (ht : DT K tt test) (he : DE K te elt) (hix : ∀ i ∈ ix, i ∈ vs) : DF K (tLc wi g tt te vs) (eComp src vs tgf test elt) := fun W F0 σ ρ F H ds Q o e q => by
  obtain ⟨xs, e1, e'⟩ := R.of_bind e
  obtain ⟨u, gd, e2⟩ := R.of_bind e'
  have gd' := of_guard gd
  rw [Bool.and_eq_true] at gd'
  have hlen : xs.length < 16777216 := of_decide_eq_true gd'.2
  refine hi W F0 σ ρ F H xs _ o e1 fun J F1 H1 o1 s1 wk => ?_
  intro D hD
  have fD := (o1.free hD).1
  have wD := (o1.free hD).2
  have apD := o1.apart hD
  have o1' := o1.pushH (.lst []) hD
  -- the invariant
  refine ⟨fun i m H' => m = xs.length - i ∧ i ≤ xs.length ∧ ∃ (F' : Hp) (acc : List V) (ds1 ds2 : List DD.D), Ok K W F1 (wipe σ vs) (wipeE ρ vs) F' H' ∧ H' D = some (.lst acc) ∧ F' D = none ∧ acc.length ≤ i ∧ Rps K F' acc ds1 ∧
    compR tgf test elt (wipeE ρ vs) (xs.drop i) = .ok ds2 ∧ ds = ds1 ++ ds2, ⟨xs.length, rfl, Nat.zero_le _, F1, [], [], ds, (o1'.self).wipe vs, upd_same, fD, Nat.le_refl _, .nil, e2, rfl⟩, ?_⟩
  rintro i m H' ⟨rfl, hil, F', acc, ds1, ds2, o2, hD', fD', hacc, rA, e3, eds⟩
  have sF : Same F1 F' := o2.ext
  have wk' := wk F' H' sF o2.sub i
  by_cases hlt : i < xs.length
  · -- one more turn
    have hx : xs[i]? = some xs[i] := List.getElem?_eq_getElem hlt
    rw [take_succ hx] at e3
    obtain ⟨ρ1, e4, e5⟩ := R.of_bind e3
    obtain ⟨b, e6, e7⟩ := R.of_bind e5
    obtain ⟨hgo, hy⟩ := wk'.2 _ hx
    refine .inr ⟨hgo, fun H2 => ∃ (F2 : Hp) (acc : List V) (ds1 ds2 : List DD.D), Ok K W F1 (wipe σ vs) (wipeE ρ vs) F2 H2 ∧ H2 D = some (.lst acc) ∧ F2 D = none ∧ acc.length ≤ i + 1 ∧ Rps K F2 acc ds1 ∧
      compR tgf test elt (wipeE ρ vs) (xs.drop (i + 1)) = .ok ds2 ∧ ds = ds1 ++ ds2, fun H2 n => ⟨xs.length - (i + 1), by omega, rfl, by omega, n⟩, fun x H3 yl => ?_⟩
    have apD' : Apart (wipe σ vs) (wipeE ρ vs) D := apD.wipe o1.len vs
    -- the item
    have item : ∃ F3, Ok K W F1 (wipe σ vs) (wipeE ρ vs) F3 H3 ∧ Same F' F3 ∧ Rp K F3 x xs[i] ∧ H3 D = some (.lst acc) ∧ F3 D = none := by
      rcases hy x H3 yl with ⟨e8, r8⟩ | ⟨p, u', hp, e8, r8⟩
      · subst e8; exact ⟨F', o2, Same.refl _, r8, hD', fD'⟩
      · subst e8
        have np : D ≠ p := ne_of_none hD' hp
        exact ⟨_, o2.push u' hp, same_upd (o2.free hp).1, r8, by rw [upd_ne np]; exact hD', by rw [upd_ne np]; exact fD'⟩
    obtain ⟨F3, o3, s3, r3, hD3, fD3⟩ := item
    have o3' := (o3.guard hD3 fD3 apD').self
    refine hg _ _ _ _ ρ1 F3 H3 x _ _ o3' r3 e4 fun σ1 o4 l4 k4 => ?_
    have ls : σ1.length = σ.length := l4.trans (wipe_length σ vs)
    have wS : wipe σ1 vs = wipe σ vs := wipe_same ls fun j hj => (k4 j fun z => hj (hix j z)).1
    have wE : wipeE ρ1 vs = wipeE ρ vs := wipeE_same (by rw [← o4.len, ls, o1.len]) fun j hj => (k4 j fun z => hj (hix j z)).2
    refine ⟨wS, ?_⟩
    have done : ∀ {F6 H6 : Hp}, Ok K (upd W D (.lst acc)) F3 σ1 ρ1 F6 H6 → Ok K W F1 (wipe σ vs) (wipeE ρ vs) F6 H6 ∧ H6 D = some (.lst acc) ∧ F6 D = none ∧ Same F3 F6 := fun {F6 H6} o6 => by
      have o7 := o6.wipe vs
      rw [wS, wE] at o7
      exact ⟨(o7.unguard wD).rebase o3.toOkB, o6.wld D _ upd_same, o6.new D _ NT.lst upd_same fD3, o6.ext⟩
    refine ht _ _ _ _ F3 H3 b _ o4 e6 fun F5 H5 o5 s5 => ?_
    cases b with
    | true =>
      rw [if_pos rfl] at e7
      obtain ⟨d', e8, e9⟩ := R.of_bind e7
      obtain ⟨ds3, e10, e11⟩ := R.of_bind e9
      cases e11
      refine iteT (he _ _ _ _ F5 H5 d' _ o5 e8 fun y F6 H6 o6 s6 r6 => ?_)
      obtain ⟨g1, g2, g3, g4⟩ := done o6
      refine ⟨acc, g2, by rw [line_eq]; omega, F6, acc ++ [y], ds1 ++ [d'], ds3, g1.alter g3 wD apD', upd_same, g3, by simp; omega, ((rA.mono s3).mono g4).append (Rps.one r6), e10, by rw [eds, List.append_assoc]; rfl⟩
    | false =>
      rw [if_neg Bool.false_ne_true] at e7
      obtain ⟨g1, g2, g3, g4⟩ := done o5
      exact iteF ⟨F5, acc, ds1, ds2, g1, g2, g3, by omega, (rA.mono s3).mono g4, e7, eds⟩
  · have ei : i = xs.length := by omega
    subst ei
    rw [List.drop_length] at e3
    cases e3
    rw [List.append_nil] at eds
    subst eds
    refine .inl ⟨wk'.1 rfl, ?_⟩
    have o6 := o1.self.unwipe gd'.1 o2 sF
    exact q D acc F' H' (o6.rebase o1.toOkB) (s1.trans sF) hD' fD' wD apD rA
end
end DD

namespace DD
open PySem PySem.Spec PyProof.Rows L2
variable [Iota]

section
variable {X : Cx}
theorem pf_lc {elt tg iter : Expr} {ifs : List Expr} {scope : Scope} {own : List (Str × Nat)} {pos : Pos} {wi : TI} {g : Shared → Hp → Addr → List (Str × Addr) → List Addr → TG} {ix : List Nat} {tt : Shared → Hp → Addr → List (Str × Addr) → List Addr → TT} {te : Shared → Hp → Addr → List (Str × Addr) → List Addr → TE} {src : En → R (List D)} {tgf : D → En → R En} {test : En → R Bool} {ef : En → R D}
    (hc : X.calm = true) (hN : X.N.Nodup) (hi : PID X tg iter wi src) (ok : BlkOk X.N X.env.scope scope own)
    (hg : ∀ (s : Shared) (H : Hp) (C : Addr) (cl : List (Str × Addr)) (fp : List Addr), PGD (X.blk s H scope (compEnvC scope cl C X.env) fp) tg (g s H C cl fp) ix tgf) (ht : ∀ (s : Shared) (H : Hp) (C : Addr) (cl : List (Str × Addr)) (fp : List Addr), PTsD (X.blk s H scope (compEnvC scope cl C X.env) fp) ifs (tt s H C cl fp) test)
    (he : ∀ (s : Shared) (H : Hp) (C : Addr) (cl : List (Str × Addr)) (fp : List Addr), PD (X.blk s H scope (compEnvC scope cl C X.env) fp) elt (te s H C cl fp) ef) (hix : ∀ i ∈ ix, i ∈ own.map (·.2) := by decide) (hge : ∀ s H C cl fp, g s H C cl fp = g X.s_0 X.H_0 0 [] [] := by intros; rfl) (hte : ∀ s H C cl fp, tt s H C cl fp = tt X.s_0 X.H_0 0 [] [] := by intros; rfl) (hee : ∀ s H C cl fp, te s H C cl fp = te X.s_0 X.H_0 0 [] [] := by intros; rfl) (hs : ∀ x, foldedSetIterable iter X.env x = pure x := by intro _; rfl) :
    PF X (.ListComp elt [⟨tg, iter, ifs, 0⟩] scope pos) (tLc wi (g X.s_0 X.H_0 0 [] []) (tt X.s_0 X.H_0 0 [] []) (te X.s_0 X.H_0 0 [] []) (own.map (·.2))) (eComp src (own.map (·.2)) tgf test ef) :=
  ⟨pe_lc hc hN hi.pe ok (fun s H C cl fp => hge s H C cl fp ▸ (hg s H C cl fp).pe) (fun s H C cl fp => hte s H C cl fp ▸ (ht s H C cl fp).pe) (fun s H C cl fp => hee s H C cl fp ▸ (he s H C cl fp).pe) hs,
    df_lc hi.de (hg X.s_0 X.H_0 0 [] []).de (ht X.s_0 X.H_0 0 [] []).de (he X.s_0 X.H_0 0 [] []).de hix⟩
end

/-! ### methods of texts -/
section
variable {X : Cx} {o e : Expr} {to te : TE} {fo fe : En → R D} {fl : En → R (List D)} {apos pos : Pos}
def dSplit : D → D → R (List D)
  | .str a, .str b => guardR (b.length != 0 && decide (a.length ≤ 16000000)) >>= fun _ => .ok ((Txt.split a b).map D.str)
  | _, _ => .bad
theorem rps_strs {K : PySem.W.Frag} {F : Hp} : ∀ ys : List Str, Rps K F (ys.map V.str) (ys.map D.str)
  | [] => .nil
  | _ :: r => .cons (rp_str.mpr rfl) (rps_strs r)
theorem pf_split (ho : PD X o to fo) (he : PD X e te fe) (hs : starEach [e] X.env = [(false, eval e X.env)] := by rfl) (hbase : attributeBase o "split" X.env (eval o X.env) = eval o X.env := by rfl) (hline : (apos.endLine == pos.line) = true := by rfl) :
    PF X (.Call (.Attribute o "split" apos) [e] [] pos) (tM1 (fun x xs H Q => ∃ a b, x = .str a ∧ xs = [.str b] ∧ (b.length == 0) = false ∧ a.length + 2 ≤ sizeLine ∧ rNewStrs (Txt.split a b) H Q) to te) (fun ρ => fo ρ >>= fun x => fe ρ >>= fun y => dSplit x y) := by
  refine ⟨pe_split ho.pe he.pe hs hbase hline, fun W F0 σ ρ F H ds Q o e q => ?_⟩
  obtain ⟨x, e1, e'⟩ := R.of_bind e
  obtain ⟨y, e2, e3⟩ := R.of_bind e'
  refine ho.de W F0 σ ρ F H x _ o e1 fun v F1 H1 o1 s1 r1 => ?_
  unfold dSplit at e3
  split at e3
  · obtain ⟨u, g, e4⟩ := R.of_bind e3
    cases e4
    rename_i a b
    have g' := of_guard g
    rw [Bool.and_eq_true] at g'
    refine ⟨⟨a, rp_str.mp r1⟩, ?_⟩
    refine he.de W F0 σ ρ F1 H1 _ _ o1 e2 fun w F2 H2 o2 s2 r2 => ?_
    refine ⟨a, b, rp_str.mp r1, by rw [rp_str.mp r2], by simpa using g'.1, by rw [line_eq]; have := of_decide_eq_true g'.2; omega, fun p hp => ?_⟩
    exact q p _ F2 _ (o2.pushH _ hp) (s1.trans s2) upd_same (o2.free hp).1 (o2.free hp).2 (o2.apart hp) (rps_strs _)
  · cases e3
def asStrs : List D → R (List Str)
  | [] => .ok []
  | .str i :: r => asStrs r >>= fun is => .ok (i :: is)
  | _ :: _ => .bad
theorem asStrs_ok : ∀ {ds : List D} {is : List Str}, asStrs ds = .ok is → ds = is.map D.str
  | [], is, h => by cases h; rfl
  | d :: r, is, h => by
    cases d <;> first | (cases h; done) | skip
    obtain ⟨js, h1, h2⟩ := R.of_bind h
    cases h2
    rw [asStrs_ok h1]
    rfl
theorem rps_strs' {K : PySem.W.Frag} {F : Hp} : ∀ {vs : List V} {is : List Str}, Rps K F vs (is.map D.str) → vs = is.map V.str
  | vs, [], h => h.of_nil
  | vs, i :: is, h => by
    obtain ⟨y, ys, rfl, r1, r2⟩ := h.of_cons
    cases rp_str.mp r1
    rw [rps_strs' r2]
    rfl
def dJoin (x : D) (ds : List D) : R D := match x with
  | .str a => asStrs ds >>= fun ys => guardR (decide ((ys.map (·.length)).sum + ys.length * a.length ≤ 16777216)) >>= fun _ => .ok (.str (Txt.join a ys))
  | _ => .bad
def rJoin (K : PySem.W.Frag) : V → List V → Hp → VK → Prop := fun x xs H Q => ∃ a p, ∃ ys : List Str, x = .str a ∧ xs = [.ref p] ∧ (SqL K H p (ys.map V.str) ∨ SqT K H p (ys.map V.str)) ∧
      (ys.map (·.length)).sum + ys.length * a.length ≤ 16777216 ∧ Q (.str (Txt.join a ys)) H
/-- sep.join(a list) -/
theorem pd_join (ho : PD X o to fo) (he : PL X e te fl) (hs : starEach [e] X.env = [(false, eval e X.env)] := by rfl) (hbase : attributeBase o "join" X.env (eval o X.env) = eval o X.env := by rfl) (hline : (apos.endLine == pos.line) = true := by rfl) :
    PD X (.Call (.Attribute o "join" apos) [e] [] pos) (tM1 (rJoin X.K) to te) (fun ρ => fo ρ >>= fun x => fl ρ >>= fun ds => dJoin x ds) := by
  refine ⟨pe_join ho.pe he.pe hs hbase hline, fun W F0 σ ρ F H d Q o e q => ?_⟩
  obtain ⟨x, e1, e'⟩ := R.of_bind e
  obtain ⟨y, e2, e3⟩ := R.of_bind e'
  refine ho.de W F0 σ ρ F H x _ o e1 fun v F1 H1 o1 s1 r1 => ?_
  unfold dJoin at e3
  split at e3
  · obtain ⟨ys, e4, e5⟩ := R.of_bind e3
    obtain ⟨u, g, e6⟩ := R.of_bind e5
    cases e6
    cases asStrs_ok e4
    refine ⟨⟨_, rp_str.mp r1⟩, ?_⟩
    refine he.de W F0 σ ρ F1 H1 _ _ o1 e2 fun p vs F2 H2 o2 s2 hp r2 => ?_
    have e7 := rps_strs' r2
    subst e7
    exact ⟨_, p, ys, rp_str.mp r1, rfl, .inl (SqL.of hp), of_decide_eq_true (of_guard g), q _ F2 H2 o2 (s1.trans s2) (rp_str.mpr rfl)⟩
  · cases e3
end

/-! ### f-strings -/
def dFmt : D → R D
  | .str z => guardR (small z.length) >>= fun _ => .ok (.str z)
  | .int i => guardR (bits i) >>= fun _ => .ok (.str (toString i))
  | _ => .bad
inductive PJD (X : Cx) : List Expr → List TE → List (En → R D) → Prop where
  | nil : PJD X [] [] []
  | cons {e : Expr} {t : TE} {f : En → R D} {es : List Expr} {ts : List TE} {fs : List (En → R D)} (h : PD X e t f) (r : PJD X es ts fs) : PJD X (e :: es) (t :: ts) (f :: fs)
theorem PJD.pj {X : Cx} : ∀ {es : List Expr} {ts : List TE} {fs : List (En → R D)}, PJD X es ts fs → PJ X es ts
  | _, _, _, .nil => .nil
  | _, _, _, .cons h r => .cons h.pe r.pj
def eJs : List (En → R D) → Str → En → R Str
  | [], acc, _ => .ok acc
  | f :: fs, acc, ρ => f ρ >>= fun d => match d with
    | .str y => guardR (small (acc ++ y).length) >>= fun _ => eJs fs (acc ++ y) ρ
    | _ => .bad
section
variable {X : Cx}
theorem pd_fmt {e : Expr} {te : TE} {f : En → R D} {pos : Pos} (h : PD X e te f) : PD X (.FormattedValue e (-1) none pos) (tFmt te) (fun ρ => f ρ >>= dFmt) := by
  refine ⟨pe_fmt h.pe, fun W F0 σ ρ F H d Q o e q => ?_⟩
  obtain ⟨x, e1, e2⟩ := R.of_bind e
  refine h.de W F0 σ ρ F H x _ o e1 fun v F1 H1 o1 s1 r1 => ?_
  unfold dFmt at e2
  split at e2
  · obtain ⟨u, g, e3⟩ := R.of_bind e2
    cases e3
    exact .inl ⟨_, rp_str.mp r1, of_small (of_guard g), q _ F1 H1 o1 s1 (rp_str.mpr rfl)⟩
  · obtain ⟨u, g, e3⟩ := R.of_bind e2
    cases e3
    exact .inr ⟨_, rp_int.mp r1, of_decide_eq_true (of_guard g), q _ F1 H1 o1 s1 (rp_str.mpr rfl)⟩
  · cases e2
theorem de_js {es : List Expr} {ts : List TE} {fs : List (En → R D)} (h : PJD X es ts fs) : ∀ (acc : Str) (W F0 : Hp) (σ : L2.St) (ρ : En) (F H : Hp) (z : Str) (Q : Str → Hp → Prop), Ok X.K W F0 σ ρ F H → eJs fs acc ρ = .ok z →
    (∀ F' H', Ok X.K W F0 σ ρ F' H' → Same F F' → Q z H') → tJs ts acc σ H Q := by
  induction h with
  | nil =>
    intro acc W F0 σ ρ F H z Q o e q
    cases e
    exact q F H o (Same.refl _)
  | @cons e t f es ts fs he r ih =>
    intro acc W F0 σ ρ F H z Q o e q
    obtain ⟨d, e1, e2⟩ := R.of_bind e
    refine he.de W F0 σ ρ F H d _ o e1 fun v F1 H1 o1 s1 r1 => ?_
    split at e2
    · obtain ⟨u, g, e3⟩ := R.of_bind e2
      exact ⟨_, rp_str.mp r1, of_small (of_guard g), ih _ W F0 σ ρ F1 H1 z Q o1 e3 fun F2 H2 o2 s2 => q F2 H2 o2 (s1.trans s2)⟩
    · cases e2
theorem pd_joined {v1 v2 : Expr} {rest : List Expr} {ts : List TE} {fs : List (En → R D)} {pos : Pos} (h : PJD X (v1 :: v2 :: rest) ts fs) :
    PD X (.JoinedStr (v1 :: v2 :: rest) pos) (fun σ H Q => tJs ts Str.empty σ H fun out H1 => Q (.str out) H1) (fun ρ => eJs fs Str.empty ρ >>= fun z => .ok (.str z)) := by
  refine ⟨pe_joined h.pj, fun W F0 σ ρ F H d Q o e q => ?_⟩
  obtain ⟨z, e1, e2⟩ := R.of_bind e
  cases e2
  exact de_js h _ W F0 σ ρ F H z _ o e1 fun F1 H1 o1 s1 => q _ F1 H1 o1 s1 (rp_str.mpr rfl)
end

/-! ### statements -/
inductive Out where
  | nx (ρ : En) | rt (d : D) | bk (ρ : En) | ct (ρ : En)
def Post (K : PySem.W.Frag) (W F0 : Hp) (E : Ends) : Out → Prop
  | .nx ρ => ∀ σ F H, Ok K W F0 σ ρ F H → E.nx σ H
  | .rt d => ∀ v F H, OkB W F0 F H → Rp K F v d → E.rt v H
  | .bk ρ => ∀ σ F H, Ok K W F0 σ ρ F H → E.bk σ H
  | .ct ρ => ∀ σ F H, Ok K W F0 σ ρ F H → E.ct σ H
def DSt (K : PySem.W.Frag) (t : TS) (g : En → R Out) : Prop := ∀ (W F0 : Hp) (σ : L2.St) (ρ : En) (F H : Hp) (E : Ends) (out : Out), Ok K W F0 σ ρ F H → g ρ = .ok out → Post K W F0 E out → t E σ H
structure PSD (X : Cx) (st : Stmt) (t : TS) (g : En → R Out) : Prop where
  pe : PS X st t
  de : DSt X.K t g
structure PSsD (X : Cx) (st : List Stmt) (t : TS) (g : En → R Out) : Prop where
  pe : PSs X st t
  de : DSt X.K t g
def sNext : En → R Out := fun ρ => .ok (.nx ρ)
def sSeq (f g : En → R Out) : En → R Out := fun ρ => f ρ >>= fun o => match o with
  | .nx ρ' => g ρ'
  | o => .ok o
def sRet (f : En → R D) : En → R Out := fun ρ => f ρ >>= fun d => .ok (.rt d)
def sRetN : En → R Out := fun _ => .ok (.rt .non)
def sBreak : En → R Out := fun ρ => .ok (.bk ρ)
def sCont : En → R Out := fun ρ => .ok (.ct ρ)
def sIf (c : En → R Bool) (f g : En → R Out) : En → R Out := fun ρ => c ρ >>= fun b => if b = true then f ρ else g ρ
def sSet (i : Nat) (f : En → R D) : En → R Out := fun ρ => f ρ >>= fun d => .ok (.nx (ρ.set i (.fz d)))
def sSetO (i : Nat) (f : En → R (List D)) : En → R Out := fun ρ => f ρ >>= fun ds => .ok (.nx (ρ.set i (.ow ds)))
def sBad : En → R Out := fun _ => .bad
def sFrz (i : Nat) (g : En → R Out) : En → R Out := fun ρ => g (frz i ρ)
section
variable {X : Cx} {pos : Pos} {st : Stmt} {rest : List Stmt} {t u : TS} {f g : En → R Out} {e : Expr} {te : TE} {fe : En → R D} {fl : En → R (List D)}
theorem pssd_nil : PSsD X [] tNext sNext := ⟨pss_nil, fun W F0 σ ρ F H E out o e q => by cases e; exact q σ F H o⟩
theorem pssd_one (h : PSD X st t g) : PSsD X [st] t g := ⟨pss_one h.pe, h.de⟩
theorem pssd_cons (h1 : PSD X st t f) (h2 : PSsD X rest u g) : PSsD X (st :: rest) (tSeq t u) (sSeq f g) := by
  refine ⟨pss_cons h1.pe h2.pe, fun W F0 σ ρ F H E out o e q => ?_⟩
  obtain ⟨o1, e1, e2⟩ := R.of_bind e
  refine h1.de W F0 σ ρ F H { E with nx := u E } o1 o e1 ?_
  cases o1 with
  | nx ρ' => exact fun σ' F' H' o' => h2.de W F0 σ' ρ' F' H' E out o' e2 q
  | rt d => cases e2; exact q
  | bk ρ' => cases e2; exact q
  | ct ρ' => cases e2; exact q
theorem psd_pass : PSD X (.Pass pos) tNext sNext := ⟨ps_pass, fun W F0 σ ρ F H E out o e q => by cases e; exact q σ F H o⟩
theorem psd_break : PSD X (.Break pos) tBreak sBreak := ⟨ps_break, fun W F0 σ ρ F H E out o e q => by cases e; exact q σ F H o⟩
theorem psd_continue : PSD X (.Continue pos) tCont sCont := ⟨ps_continue, fun W F0 σ ρ F H E out o e q => by cases e; exact q σ F H o⟩
theorem psd_never : PSD X st tNever sBad := ⟨ps_never, fun W F0 σ ρ F H E out o e q => by cases e⟩
theorem psd_ret (h : PD X e te fe) : PSD X (.Return (some e) pos) (tRet te) (sRet fe) := by
  refine ⟨ps_ret h.pe, fun W F0 σ ρ F H E out o e q => ?_⟩
  obtain ⟨d, e1, e2⟩ := R.of_bind e
  cases e2
  exact h.de W F0 σ ρ F H d _ o e1 fun v F' H' o' s r => q v F' H' o'.toOkB r
theorem psd_retN : PSD X (.Return none pos) tRetN sRetN := ⟨ps_retN, fun W F0 σ ρ F H E out o e q => by cases e; exact q _ F H o.toOkB (rp_non.mpr rfl)⟩
theorem psd_if {c : Expr} {a b : List Stmt} {tc : TT} {fc : En → R Bool} (hc : PTD X c tc fc) (ha : PSsD X a t f) (hb : PSsD X b u g) : PSD X (.If c a b pos) (tIfS tc t u) (sIf fc f g) := by
  refine ⟨ps_if hc.pe ha.pe hb.pe, fun W F0 σ ρ F H E out o e q => ?_⟩
  obtain ⟨k, e1, e2⟩ := R.of_bind e
  refine hc.de W F0 σ ρ F H k _ o e1 fun F1 H1 o1 s1 => ?_
  cases k with
  | true => exact iteT (ha.de W F0 σ ρ F1 H1 E out o1 (by simpa using e2) q)
  | false => exact iteF (hb.de W F0 σ ρ F1 H1 E out o1 (by simpa using e2) q)
theorem psd_set {i : Nat} {x : Str} {pos' : Pos} (hN : X.N.Nodup) (h : PD X e te fe) (hi : X.N[i]? = some x := by rfl) (hx : Loc X.env.scope x := by first | exact Or.inl rfl | exact Or.inr rfl) (hs : swapsWith e (some (.Name x pos')) pos.line X.env = pure false := by rfl) (hf : X.fn x = true ∨ X.env.scope.names.lookup x = some .local := by first | exact .inl rfl | exact .inr rfl | assumption) :
    PSD X (.Assign [.Name x pos'] e pos) (tAsg te (gName i)) (sSet i fe) := by
  refine ⟨ps_set hN hi hx h.pe hs hf, fun W F0 σ ρ F H E out o e q => ?_⟩
  obtain ⟨d, e1, e2⟩ := R.of_bind e
  cases e2
  exact h.de W F0 σ ρ F H d _ o e1 fun v F' H' o' s r => q _ F' H' (o'.setF i r)
theorem psd_setO {i : Nat} {x : Str} {pos' : Pos} (hN : X.N.Nodup) (h : PF X e te fl) (hi : X.N[i]? = some x := by rfl) (hx : Loc X.env.scope x := by first | exact Or.inl rfl | exact Or.inr rfl) (hs : swapsWith e (some (.Name x pos')) pos.line X.env = pure false := by rfl) (hf : X.fn x = true ∨ X.env.scope.names.lookup x = some .local := by first | exact .inl rfl | exact .inr rfl | assumption) :
    PSD X (.Assign [.Name x pos'] e pos) (tAsg te (gName i)) (sSetO i fl) := by
  refine ⟨ps_set hN hi hx h.pe hs hf, fun W F0 σ ρ F H E out o e q => ?_⟩
  obtain ⟨d, e1, e2⟩ := R.of_bind e
  cases e2
  exact h.de W F0 σ ρ F H d _ o e1 fun p vs F' H' o' s hp hf hw ap r => q _ F' H' (o'.setO i hp hf hw ap r)
theorem ds_setO {K : PySem.W.Frag} {i : Nat} (h : DF K te fl) : DSt K (tAsg te (gName i)) (sSetO i fl) := fun W F0 σ ρ F H E out o e q => by
  obtain ⟨d, e1, e2⟩ := R.of_bind e
  cases e2
  exact h W F0 σ ρ F H d _ o e1 fun p vs F' H' o' s hp hf hw ap r => q _ F' H' (o'.setO i hp hf hw ap r)
theorem ds_setL {K : PySem.W.Frag} {i : Nat} (h : DF K te fl) : DSt K (tAsg te (gName i)) (sSet i (toLst fl)) := fun W F0 σ ρ F H E out o e q => by
  obtain ⟨d, e1, e2⟩ := R.of_bind e
  cases e2
  obtain ⟨ds, e3, e4⟩ := R.of_bind e1
  cases e4
  refine h W F0 σ ρ F H ds _ o e3 fun p vs F' H' o' s hp hf hw ap r => ?_
  have s' : Same F' (upd F' p (.lst vs)) := same_upd hf
  exact q _ _ _ ((o'.freezeAt hp hf hw ap).setF i (rp_lst.mpr ⟨p, vs, rfl, upd_same, r.mono s'⟩))
/-- y = [..] on its own line -/
theorem psd_setLcW {i : Nat} {y : Str} {py : Pos} {elt tg iter : Expr} {ifs : List Expr} {scope : Scope} {own : List (Str × Nat)} {pos spos : Pos} {wi : TI} {g : Shared → Hp → Addr → List (Str × Addr) → List Addr → TG} {ix : List Nat} {tt : Shared → Hp → Addr → List (Str × Addr) → List Addr → TT} {te : Shared → Hp → Addr → List (Str × Addr) → List Addr → TE} {src : En → R (List D)} {tgf : D → En → R En} {test : En → R Bool} {ef : En → R D} {so : En → R Out}
    (hds : DSt X.K (tAsg (tLc wi (g X.s_0 X.H_0 0 [] []) (tt X.s_0 X.H_0 0 [] []) (te X.s_0 X.H_0 0 [] []) (own.map (·.2))) (gName i)) so)
    (hc : X.calm = true) (hN : X.N.Nodup) (hy : X.N[i]? = some y) (hyl : X.env.scope.names.lookup y = some .local) (hsw : swapsWith (.ListComp elt [⟨tg, iter, ifs, 0⟩] scope pos) (some (.Name y py)) spos.line X.env = pure true)
    (hi : PID X tg iter wi src) (ok : BlkOk X.N X.env.scope scope own)
    (hg : ∀ (s : Shared) (H : Hp) (C : Addr) (cl : List (Str × Addr)) (fp : List Addr), PGD (X.blk s H scope (compEnvC scope cl C X.env) fp) tg (g s H C cl fp) ix tgf) (ht : ∀ (s : Shared) (H : Hp) (C : Addr) (cl : List (Str × Addr)) (fp : List Addr), PTsD (X.blk s H scope (compEnvC scope cl C X.env) fp) ifs (tt s H C cl fp) test)
    (he : ∀ (s : Shared) (H : Hp) (C : Addr) (cl : List (Str × Addr)) (fp : List Addr), PD (X.blk s H scope (compEnvC scope cl C X.env) fp) elt (te s H C cl fp) ef) (hge : ∀ s H C cl fp, g s H C cl fp = g X.s_0 X.H_0 0 [] [] := by intros; rfl) (hte : ∀ s H C cl fp, tt s H C cl fp = tt X.s_0 X.H_0 0 [] [] := by intros; rfl) (hee : ∀ s H C cl fp, te s H C cl fp = te X.s_0 X.H_0 0 [] [] := by intros; rfl) (hs : ∀ x, foldedSetIterable iter X.env x = pure x := by intro _; rfl) :
    PSD X (.Assign [.Name y py] (.ListComp elt [⟨tg, iter, ifs, 0⟩] scope pos) spos) (tAsg (tLc wi (g X.s_0 X.H_0 0 [] []) (tt X.s_0 X.H_0 0 [] []) (te X.s_0 X.H_0 0 [] []) (own.map (·.2))) (gName i)) so :=
  ⟨ps_setLc hc hN hy hyl hsw hi.pe ok (fun s H C cl fp => hge s H C cl fp ▸ (hg s H C cl fp).pe) (fun s H C cl fp => hte s H C cl fp ▸ (ht s H C cl fp).pe) (fun s H C cl fp => hee s H C cl fp ▸ (he s H C cl fp).pe) hs, hds⟩
theorem psd_setLcO {i : Nat} {y : Str} {py : Pos} {elt tg iter : Expr} {ifs : List Expr} {scope : Scope} {own : List (Str × Nat)} {pos spos : Pos} {wi : TI} {g : Shared → Hp → Addr → List (Str × Addr) → List Addr → TG} {ix : List Nat} {tt : Shared → Hp → Addr → List (Str × Addr) → List Addr → TT} {te : Shared → Hp → Addr → List (Str × Addr) → List Addr → TE} {src : En → R (List D)} {tgf : D → En → R En} {test : En → R Bool} {ef : En → R D}
    (hc : X.calm = true) (hN : X.N.Nodup) (hsw : swapsWith (.ListComp elt [⟨tg, iter, ifs, 0⟩] scope pos) (some (.Name y py)) spos.line X.env = pure true)
    (hi : PID X tg iter wi src) (ok : BlkOk X.N X.env.scope scope own)
    (hg : ∀ (s : Shared) (H : Hp) (C : Addr) (cl : List (Str × Addr)) (fp : List Addr), PGD (X.blk s H scope (compEnvC scope cl C X.env) fp) tg (g s H C cl fp) ix tgf) (ht : ∀ (s : Shared) (H : Hp) (C : Addr) (cl : List (Str × Addr)) (fp : List Addr), PTsD (X.blk s H scope (compEnvC scope cl C X.env) fp) ifs (tt s H C cl fp) test)
    (he : ∀ (s : Shared) (H : Hp) (C : Addr) (cl : List (Str × Addr)) (fp : List Addr), PD (X.blk s H scope (compEnvC scope cl C X.env) fp) elt (te s H C cl fp) ef) (hy : X.N[i]? = some y := by rfl) (hyl : X.env.scope.names.lookup y = some .local := by rfl) (hix : ∀ i ∈ ix, i ∈ own.map (·.2) := by decide) (hge : ∀ s H C cl fp, g s H C cl fp = g X.s_0 X.H_0 0 [] [] := by intros; rfl) (hte : ∀ s H C cl fp, tt s H C cl fp = tt X.s_0 X.H_0 0 [] [] := by intros; rfl) (hee : ∀ s H C cl fp, te s H C cl fp = te X.s_0 X.H_0 0 [] [] := by intros; rfl) (hs : ∀ x, foldedSetIterable iter X.env x = pure x := by intro _; rfl) :
    PSD X (.Assign [.Name y py] (.ListComp elt [⟨tg, iter, ifs, 0⟩] scope pos) spos) (tAsg (tLc wi (g X.s_0 X.H_0 0 [] []) (tt X.s_0 X.H_0 0 [] []) (te X.s_0 X.H_0 0 [] []) (own.map (·.2))) (gName i)) (sSetO i (eComp src (own.map (·.2)) tgf test ef)) :=
  psd_setLcW (ds_setO (df_lc hi.de (hg X.s_0 X.H_0 0 [] []).de (ht X.s_0 X.H_0 0 [] []).de (he X.s_0 X.H_0 0 [] []).de hix)) hc hN hy hyl hsw hi ok hg ht he hge hte hee hs
theorem psd_setLc {i : Nat} {y : Str} {py : Pos} {elt tg iter : Expr} {ifs : List Expr} {scope : Scope} {own : List (Str × Nat)} {pos spos : Pos} {wi : TI} {g : Shared → Hp → Addr → List (Str × Addr) → List Addr → TG} {ix : List Nat} {tt : Shared → Hp → Addr → List (Str × Addr) → List Addr → TT} {te : Shared → Hp → Addr → List (Str × Addr) → List Addr → TE} {src : En → R (List D)} {tgf : D → En → R En} {test : En → R Bool} {ef : En → R D}
    (hc : X.calm = true) (hN : X.N.Nodup) (hsw : swapsWith (.ListComp elt [⟨tg, iter, ifs, 0⟩] scope pos) (some (.Name y py)) spos.line X.env = pure true)
    (hi : PID X tg iter wi src) (ok : BlkOk X.N X.env.scope scope own)
    (hg : ∀ (s : Shared) (H : Hp) (C : Addr) (cl : List (Str × Addr)) (fp : List Addr), PGD (X.blk s H scope (compEnvC scope cl C X.env) fp) tg (g s H C cl fp) ix tgf) (ht : ∀ (s : Shared) (H : Hp) (C : Addr) (cl : List (Str × Addr)) (fp : List Addr), PTsD (X.blk s H scope (compEnvC scope cl C X.env) fp) ifs (tt s H C cl fp) test)
    (he : ∀ (s : Shared) (H : Hp) (C : Addr) (cl : List (Str × Addr)) (fp : List Addr), PD (X.blk s H scope (compEnvC scope cl C X.env) fp) elt (te s H C cl fp) ef) (hy : X.N[i]? = some y := by rfl) (hyl : X.env.scope.names.lookup y = some .local := by rfl) (hix : ∀ i ∈ ix, i ∈ own.map (·.2) := by decide) (hge : ∀ s H C cl fp, g s H C cl fp = g X.s_0 X.H_0 0 [] [] := by intros; rfl) (hte : ∀ s H C cl fp, tt s H C cl fp = tt X.s_0 X.H_0 0 [] [] := by intros; rfl) (hee : ∀ s H C cl fp, te s H C cl fp = te X.s_0 X.H_0 0 [] [] := by intros; rfl) (hs : ∀ x, foldedSetIterable iter X.env x = pure x := by intro _; rfl) :
    PSD X (.Assign [.Name y py] (.ListComp elt [⟨tg, iter, ifs, 0⟩] scope pos) spos) (tAsg (tLc wi (g X.s_0 X.H_0 0 [] []) (tt X.s_0 X.H_0 0 [] []) (te X.s_0 X.H_0 0 [] []) (own.map (·.2))) (gName i)) (sSet i (toLst (eComp src (own.map (·.2)) tgf test ef))) :=
  psd_setLcW (ds_setL (df_lc hi.de (hg X.s_0 X.H_0 0 [] []).de (ht X.s_0 X.H_0 0 [] []).de (he X.s_0 X.H_0 0 [] []).de hix)) hc hN hy hyl hsw hi ok hg ht he hge hte hee hs
theorem psd_frz (i : Nat) (h : PSD X st t g) : PSD X st t (sFrz i g) := by
  refine ⟨h.pe, fun W F0 σ ρ F H E out o e q => ?_⟩
  obtain ⟨F', s, o'⟩ := o.freeze i
  exact h.de W F0 σ _ F' H E out o' e q
/-- an expression alone -/
def sDrop (f : En → R D) : En → R Out := fun ρ => f ρ >>= fun _ => .ok (.nx ρ)
theorem psd_expr (h : PD X e te fe) (hs : swapsWith e none pos.line X.env = pure false := by rfl) : PSD X (.Expr e pos) (tDrop te) (sDrop fe) := by
  refine ⟨ps_expr h.pe hs, fun W F0 σ ρ F H E out o e q => ?_⟩
  obtain ⟨d, e1, e2⟩ := R.of_bind e
  cases e2
  exact h.de W F0 σ ρ F H d _ o e1 fun v F' H' o' s r => q _ F' H' o'
/-! an owned list is changed -/
def sApp (i : Nat) (f : En → R D) : En → R Out := fun ρ => eOwn i ρ >>= fun ds => f ρ >>= fun d => guardR (decide (ds.length < 16777216)) >>= fun _ => .ok (.nx (ρ.set i (.ow (ds ++ [d]))))
def sIns (i : Nat) (k f : En → R D) : En → R Out := fun ρ => eOwn i ρ >>= fun ds => k ρ >>= fun j => f ρ >>= fun d => match j with
  | .int j => guardR (decide (ds.length < 16777216) && decide (0 ≤ j) && decide (j < 2 ^ 63)) >>= fun _ => .ok (.nx (ρ.set i (.ow (ds.take j.toNat ++ [d] ++ ds.drop j.toNat))))
  | _ => .bad
def sPut (i : Nat) (k f : En → R D) : En → R Out := fun ρ => f ρ >>= fun d => eOwn i ρ >>= fun ds => k ρ >>= fun j => match j with
  | .int j => match ixN ds.length j with
    | some n => .ok (.nx (ρ.set i (.ow (ds.set n d))))
    | none => .bad
  | _ => .bad
theorem own_at {K : PySem.W.Frag} {W F0 F H : Hp} {σ : L2.St} {ρ : En} {i : Nat} {ds : List D} (o : Ok K W F0 σ ρ F H) (h : eOwn i ρ = .ok ds) : ∃ p vs, ρ[i]? = some (.ow ds) ∧ σ[i]? = some (some (.ref p)) ∧ H p = some (.lst vs) ∧ Rps K F vs ds := by
  unfold eOwn at h
  split at h
  · rename_i ds' hd
    cases h
    obtain ⟨x, h1, p, vs, e, hp, hf, hw, r⟩ := slot_at o hd
    exact ⟨p, vs, hd, by rw [h1, e], hp, r⟩
  · cases h
theorem own_on {K : PySem.W.Frag} {W F0 F H : Hp} {σ : L2.St} {ρ : En} {i : Nat} {ds : List D} {p : Addr} (o : Ok K W F0 σ ρ F H) (h : ρ[i]? = some (.ow ds)) (hs : σ[i]? = some (some (.ref p))) : ∃ vs, H p = some (.lst vs) ∧ Rps K F vs ds := by
  obtain ⟨p', vs, e, hp, hf, hw, r⟩ := o.slots i _ _ hs h
  cases e
  exact ⟨vs, hp, r⟩
theorem psd_append (i : Nat) {x : Str} {px apos cpos : Pos} (he : PD X e te fe) (hN : X.N[i]? = some x := by rfl) (hv : Vis X.env.scope x := by first | exact Or.inl rfl | exact Or.inr (Or.inl rfl) | exact Or.inr (Or.inr rfl))
    (hd : (x == ("__debug__" : Str)) = false := by decide) (hcd : (x == ("__classdict__" : Str)) = false := by decide)
    (hbase : attributeBase (.Name x px) "append" X.env (eval (.Name x px) X.env) = eval (.Name x px) X.env := by rfl)
    (hfew : ((backTo cpos (starEach [e] X.env)).all (fun x => !x.1) && (backToKw cpos (keywordEach [] X.env)).all (fun x => x.1.isSome)
      && decide (([e] : List Expr).length + ([] : List Keyword).length + (if ([] : List Keyword).isEmpty then 0 else 1) < 30)) = true := by rfl)
    (hline : (apos.endLine == cpos.line) = true := by rfl) (hst : starEach [e] X.env = (false, eval e X.env) :: starEach [] X.env := by rfl) (hplain : (backTo cpos (starEach [] X.env)).any (·.1) = false := by rfl)
    (hs : swapsWith (.Call (.Attribute (.Name x px) "append" apos) [e] [] cpos) none pos.line X.env = pure false := by rfl) :
    PSD X (.Expr (.Call (.Attribute (.Name x px) "append" apos) [e] [] cpos) pos) (tDrop (tBM X.K "list" rAppend (tVar i) (tCons te tNil))) (sApp i fe) := by
  refine ⟨ps_expr (pe_bm PySem.F.plainAttrs_list PySem.F.slot_list_append PySem.F.type_list_append mt_append (pe_var hN hv hd hcd) (pa_cons he.pe pa_nil hst) hbase hfew hline hst hplain) hs, fun W F0 σ ρ F H E out o e q => ?_⟩
  obtain ⟨ds, e1, e'⟩ := R.of_bind e
  obtain ⟨d, e2, e''⟩ := R.of_bind e'
  obtain ⟨u, g, e3⟩ := R.of_bind e''
  cases e3
  obtain ⟨p, vs, h1, h2, h3, r⟩ := own_at o e1
  refine ⟨.ref p, h2, .inl ⟨rfl, vs, SqL.of h3⟩, ?_⟩
  refine he.de W F0 σ ρ F H d _ o e2 fun v F1 H1 o1 s1 r1 => ?_
  obtain ⟨vs1, h4, r2⟩ := own_on o1 h1 h2
  refine ⟨p, vs1, v, rfl, rfl, h4, by rw [line_eq, r2.length]; exact of_decide_eq_true (of_guard g), ?_⟩
  exact q σ F1 _ (o1.setAt h1 h2 (r2.append (Rps.one r1)))
theorem psd_insert (i : Nat) {x : Str} {px apos cpos : Pos} {k : Expr} {tk : TE} {fk : En → R D} (hk : PD X k tk fk) (he : PD X e te fe) (hN : X.N[i]? = some x := by rfl) (hv : Vis X.env.scope x := by first | exact Or.inl rfl | exact Or.inr (Or.inl rfl) | exact Or.inr (Or.inr rfl))
    (hd : (x == ("__debug__" : Str)) = false := by decide) (hcd : (x == ("__classdict__" : Str)) = false := by decide)
    (hbase : attributeBase (.Name x px) "insert" X.env (eval (.Name x px) X.env) = eval (.Name x px) X.env := by rfl)
    (hfew : ((backTo cpos (starEach [k, e] X.env)).all (fun x => !x.1) && (backToKw cpos (keywordEach [] X.env)).all (fun x => x.1.isSome)
      && decide (([k, e] : List Expr).length + ([] : List Keyword).length + (if ([] : List Keyword).isEmpty then 0 else 1) < 30)) = true := by rfl)
    (hline : (apos.endLine == cpos.line) = true := by rfl) (hst : starEach [k, e] X.env = (false, eval k X.env) :: starEach [e] X.env := by rfl) (hst2 : starEach [e] X.env = (false, eval e X.env) :: starEach [] X.env := by rfl) (hplain : (backTo cpos (starEach [e] X.env)).any (·.1) = false := by rfl)
    (hs : swapsWith (.Call (.Attribute (.Name x px) "insert" apos) [k, e] [] cpos) none pos.line X.env = pure false := by rfl) :
    PSD X (.Expr (.Call (.Attribute (.Name x px) "insert" apos) [k, e] [] cpos) pos) (tDrop (tBM X.K "list" (fun x vs H Q => ∃ (l : Addr) (xs : List V) (i : Int) (y : V), x = .ref l ∧ vs = [.int i, y] ∧ H l = some (.lst xs) ∧ xs.length < sizeLine ∧ 0 ≤ i ∧ i < 2 ^ 63 ∧
      Q .non (upd H l (.lst (xs.take i.toNat ++ [y] ++ xs.drop i.toNat)))) (tVar i) (tCons tk (tCons te tNil)))) (sIns i fk fe) := by
  refine ⟨ps_expr (pe_bm PySem.F.plainAttrs_list PySem.F.slot_list_insert PySem.F.type_list_insert mt_insert (pe_var hN hv hd hcd) (pa_cons hk.pe (pa_cons he.pe pa_nil hst2) hst) hbase hfew hline hst hplain) hs, fun W F0 σ ρ F H E out o e q => ?_⟩
  obtain ⟨ds, e1, e'⟩ := R.of_bind e
  obtain ⟨j, e2, e''⟩ := R.of_bind e'
  obtain ⟨d, e3, e4⟩ := R.of_bind e''
  obtain ⟨p, vs, h1, h2, h3, r⟩ := own_at o e1
  refine ⟨.ref p, h2, .inl ⟨rfl, vs, SqL.of h3⟩, ?_⟩
  refine hk.de W F0 σ ρ F H j _ o e2 fun w F1 H1 o1 s1 r1 => ?_
  refine he.de W F0 σ ρ F1 H1 d _ o1 e3 fun v F2 H2 o2 s2 r2 => ?_
  obtain ⟨vs1, h4, r3⟩ := own_on o2 h1 h2
  split at e4
  · obtain ⟨u, g, e5⟩ := R.of_bind e4
    cases e5
    have g' := of_guard g
    rw [Bool.and_eq_true, Bool.and_eq_true] at g'
    refine ⟨p, vs1, _, v, rfl, by rw [rp_int.mp r1], h4, by rw [line_eq, r3.length]; exact of_decide_eq_true g'.1.1, of_decide_eq_true g'.1.2, of_decide_eq_true g'.2, ?_⟩
    exact q σ F2 _ (o2.setAt h1 h2 (((r3.take _).append (Rps.one r2)).append (r3.drop _)))
  · cases e4
theorem psd_put (i : Nat) {x : Str} {px ipos : Pos} {k : Expr} {tk : TE} {fk : En → R D} (hk : PD X k tk fk) (he : PD X e te fe) (hN : X.N[i]? = some x := by rfl) (hv : Vis X.env.scope x := by first | exact Or.inl rfl | exact Or.inr (Or.inl rfl) | exact Or.inr (Or.inr rfl))
    (hd : (x == ("__debug__" : Str)) = false := by decide) (hcd : (x == ("__classdict__" : Str)) = false := by decide)
    (ha : ∀ v, assign (.Subscript (.Name x px) k ipos) X.env v = (do
      let ov ← holding [v] (eval (.Name x px) X.env)
      let iv ← holding [v, ov] (eval k X.env)
      standAt ipos
      holding [v, ov, iv] (setItem ov iv v)
      release [v, ov, iv] []) := by intro _; rfl)
    (hs : swapsWithSole [.Subscript (.Name x px) k ipos] e pos.line X.env = pure false := by rfl) (hw : swappedStores [.Subscript (.Name x px) k ipos] e X.env = pure none := by rfl)
    (h1 : (assignEach [.Subscript (.Name x px) k ipos] X.env).map (·.2) = [assign (.Subscript (.Name x px) k ipos) X.env] := by rfl) :
    PSD X (.Assign [.Subscript (.Name x px) k ipos] e pos) (tAsg te (gSub (tVar i) tk rSetL)) (sPut i fk fe) := by
  refine ⟨ps_asg he.pe (pg_sub (pe_var hN hv hd hcd) hk.pe set_list ha) hs hw h1, fun W F0 σ ρ F H E out o e q => ?_⟩
  obtain ⟨d, e1, e'⟩ := R.of_bind e
  obtain ⟨ds, e2, e''⟩ := R.of_bind e'
  obtain ⟨j, e3, e4⟩ := R.of_bind e''
  refine he.de W F0 σ ρ F H d _ o e1 fun v F1 H1 o1 s1 r1 => ?_
  obtain ⟨p, vs, h1, h2, h3, r⟩ := own_at o1 e2
  refine ⟨.ref p, h2, ?_⟩
  refine hk.de W F0 σ ρ F1 H1 j _ o1 e3 fun w F2 H2 o2 s2 r2 => ?_
  obtain ⟨vs1, h4, r3⟩ := own_on o2 h1 h2
  split at e4
  · split at e4
    · rename_i n hn
      cases e4
      refine ⟨p, vs1, _, n, rfl, rp_int.mp r2, h4, by rw [r3.length]; exact hn, ?_⟩
      exact q σ F2 _ (o2.setAt h1 h2 (r3.set n (r1.mono s2)))
    · cases e4
  · cases e4
/-! for -/
def forR (tg : D → En → R En) (body : En → R Out) : List D → En → R Out
  | [], ρ => .ok (.nx ρ)
  | d :: ds, ρ => tg d ρ >>= fun ρ1 => body ρ1 >>= fun o => match o with
    | .nx ρ2 => forR tg body ds ρ2
    | .ct ρ2 => forR tg body ds ρ2
    | .bk ρ2 => .ok (.nx ρ2)
    | .rt d => .ok (.rt d)
def sFor (src : En → R (List D)) (tg : D → En → R En) (body : En → R Out) : En → R Out := fun ρ => src ρ >>= fun ds => forR tg body ds ρ
theorem psd_for {tg iter : Expr} {body : List Stmt} {wi : TI} {gt : TG} {ix : List Nat} {tgf : D → En → R En} {src : En → R (List D)} {tb : TS} {bf : En → R Out} (hp : PassesOwn (model X.prog X.w) X.A X.env X.xe) (hc : X.calm = true)
    (hi : PID X tg iter wi src) (hg : PGD X tg gt ix tgf) (hb : PSsD X body tb bf) (hs : ∀ x, foldedSetIterable iter X.env x = pure x := by intro _; rfl) : PSD X (.For tg iter body [] pos) (tFor wi gt tb) (sFor src tgf bf) := by
  refine ⟨ps_for hp hc hi.pe hg.pe hb.pe hs, fun W F0 σ ρ F H E out o e q => ?_⟩
  obtain ⟨ds, e1, e2⟩ := R.of_bind e
  refine hi.de W F0 σ ρ F H ds _ o e1 fun J F1 H1 o1 s1 wk => ?_
  refine ⟨fun i m σ' H' => m = ds.length - i ∧ i ≤ ds.length ∧ ∃ ρ' F', Ok X.K W F1 σ' ρ' F' H' ∧ forR tgf bf (ds.drop i) ρ' = .ok out, ⟨ds.length, rfl, Nat.zero_le _, ρ, F1, o1.self, e2⟩, ?_⟩
  rintro i m σ' H' ⟨rfl, hil, ρ', F', o2, e3⟩
  have wk' := wk F' H' o2.ext o2.sub i
  by_cases hlt : i < ds.length
  · have hx : ds[i]? = some ds[i] := List.getElem?_eq_getElem hlt
    rw [take_succ hx] at e3
    obtain ⟨ρ1, e4, e5⟩ := R.of_bind e3
    obtain ⟨o3, e6, e7⟩ := R.of_bind e5
    obtain ⟨hgo, hy⟩ := wk'.2 _ hx
    refine .inr ⟨hgo, fun σ2 H2 => ∃ ρ2 F2, Ok X.K W F1 σ2 ρ2 F2 H2 ∧ forR tgf bf (ds.drop (i + 1)) ρ2 = .ok out, fun σ2 H2 n => ⟨ds.length - (i + 1), by omega, rfl, by omega, n⟩, fun x H3 yl => ?_⟩
    have item : ∃ F3, Ok X.K W F1 σ' ρ' F3 H3 ∧ Rp X.K F3 x ds[i] := by
      rcases hy x H3 yl with ⟨e8, r8⟩ | ⟨p, u', hp, e8, r8⟩
      · subst e8; exact ⟨F', o2, r8⟩
      · subst e8; exact ⟨_, o2.push u' hp, r8⟩
    obtain ⟨F3, o4, r4⟩ := item
    refine hg.de W F1 σ' ρ' ρ1 F3 H3 x _ _ o4 r4 e4 fun σ1 o5 _ _ => ?_
    refine hb.de W F1 σ1 ρ1 F3 H3 _ o3 o5 e6 ?_
    cases o3 with
    | nx ρ2 => exact fun σ2 F2 H2 o6 => ⟨ρ2, F2, o6, e7⟩
    | ct ρ2 => exact fun σ2 F2 H2 o6 => ⟨ρ2, F2, o6, e7⟩
    | bk ρ2 =>
      cases e7
      exact fun σ2 F2 H2 o6 => q σ2 F2 H2 (o6.rebase o1.toOkB)
    | rt d =>
      cases e7
      exact fun v F2 H2 o6 r => q v F2 H2 (o6.rebase o1.toOkB) r
  · have ei : i = ds.length := by omega
    subst ei
    rw [List.drop_length] at e3
    cases e3
    exact .inl ⟨wk'.1 rfl, q σ' F' H' (o2.rebase o1.toOkB)⟩
end

/-! ### a def -/
def runD (n k : Nat) (body : En → R Out) : List D → R D := fun ds => guardR (ds.length == n) >>= fun _ => body (ds.map Sl.fz ++ List.replicate k .un) >>= fun o => match o with
  | .rt d => .ok d
  | .nx _ => .ok .non
  | _ => .bad
/-- a def's promise: a plain function from data to data; what was stays -/
def spD (K : PySem.W.Frag) (m : List D → R D) : Sp := fun vs H Q _ => ∃ (F : Hp) (ds : List D) (d : D), Same F H ∧ Rps K F vs ds ∧ m ds = .ok d ∧
  ∀ v F' H', Same F F' → Same F' H' → Same H H' → (∀ b o, NT o → H b = some o → F b = none → F' b = none) → Rp K F' v d → Q v H'
section
variable {P : Program} {w : World} {K : PySem.W.Frag} {mg : Str → Option Value} {base : Heap}
theorem ok_start {N : List Str} {vs : List V} {ds : List D} {F H : Hp} {k : Nat} (s : Same F H) (r : Rps K F vs ds) (hk : N.length - ds.length = k) : Ok K H F (L2.start N vs) (ds.map Sl.fz ++ List.replicate k .un) F H := by
  have hl := r.length
  refine ⟨⟨s, Same.refl _, Same.refl _, fun b o nt e1 e2 => e2⟩, by simp [L2.start, hl, hk], fun i o sl h1 h2 => ?_, fun i j p es es' h1 h2 h3 h4 => ?_⟩
  · by_cases hi : i < ds.length
    · rw [List.getElem?_append_left (by simpa using hi), List.getElem?_map] at h2
      unfold L2.start at h1
      rw [List.getElem?_append_left (by simp [hl]; exact hi), List.getElem?_map] at h1
      have hd : ds[i]? = some ds[i] := List.getElem?_eq_getElem hi
      rw [hd] at h2
      cases h2
      obtain ⟨v, hv, rv⟩ := r.get hd
      rw [hv] at h1
      cases h1
      exact ⟨v, rfl, rv⟩
    · rw [List.getElem?_append_right (by simp; omega), List.getElem?_replicate] at h2
      split at h2
      · cases h2; trivial
      · cases h2
  · exfalso
    by_cases hi : i < ds.length
    · rw [List.getElem?_append_left (by simpa using hi), List.getElem?_map, List.getElem?_eq_getElem hi] at h1
      cases h1
    · rw [List.getElem?_append_right (by simp; omega), List.getElem?_replicate] at h1
      split at h1 <;> cases h1
theorem Fun.okD {x qual : Str} {st : Stmt} {f : Addr} {fd : FuncData} {N ps : List Str} {k : Nat} {g : En → R Out} (F : L2.Fun K x qual st f fd) (S : FnScope N ps (defScope st))
    (hbody : ∀ (cdv : Value) (A : Around) (outer : List Env) (s : Shared) (H : Hp) (E : XK), Room k (A.deeper (envOfC qual (defScope st) s.heap.objs.size f cdv)) →
      ∃ t, PSsD (cxOf CX0 P w K mg base N qual (defScope st) f cdv A outer s H E).nox (defBody st) t g) : FnOk P w K mg base CX0 (k + 1) f fd ps (spD K (runD ps.length (N.length - ps.length) g)) := by
  refine F.ok S (fun vs H Q E h => ?_) (fun cdv A outer s H vs Q E hr h => ?_)
  · obtain ⟨F', ds, d, sF, r, e, _⟩ := h
    obtain ⟨u, g', _⟩ := R.of_bind e
    rw [r.length]
    exact beq_iff_eq.mp (of_guard g')
  · obtain ⟨F1, ds, d, sF, r, e, q⟩ := h
    obtain ⟨u, g', e1⟩ := R.of_bind e
    obtain ⟨out, e2, e3⟩ := R.of_bind e1
    have hl : ds.length = ps.length := beq_iff_eq.mp (of_guard g')
    obtain ⟨t, ht⟩ := hbody cdv A outer s H E hr
    refine ⟨t, ht.pe, ?_⟩
    have o := ok_start (N := N) (k := N.length - ps.length) sF r (by rw [hl])
    refine ht.de H F1 _ _ F1 H _ out o e2 ?_
    have fin : ∀ {v : V} {F' H' : Hp} {d' : D}, OkB H F1 F' H' → Rp K F' v d' → d' = d → Q v H' := fun {v F' H' d'} o' r' e' => by
      subst e'
      exact q v F' H' o'.ext o'.sub o'.wld (fun b o nt e1 e2 => o'.new b o nt e1 e2) r'
    cases out with
    | rt d' => cases e3; exact fun v F' H' o' r' => fin o' r' rfl
    | nx ρ' => cases e3; exact fun σ' F' H' o' => fin (d' := .non) o'.toOkB (rp_non.mpr rfl) rfl
    | bk ρ' => cases e3
    | ct ρ' => cases e3
end
section
variable {X : Cx} {k : Nat} {f : Addr} {fd : FuncData} {ps : List Str} {m : List D → R D} {x : Str} {p pos : Pos} {e : Expr} {es : List Expr} {t : TA} {fa : En → R (List D)}
/-- a call of such a def -/
theorem pd_call (G : FnOk X.prog X.w X.K X.mg X.base CX0 k f fd ps (spD X.K m)) (hr : Room k X.A) (hm : X.mg x = some (.ref f)) (hk : PySem.W.keepIn X.K (.ref f) = true) (hb : Binds X.K fd ps []) (ha : PAD X (e :: es) t fa) (hg : Gl X x := by rfl)
    (hdb : (x == ("__debug__" : Str)) = false := by decide) (he : starEach (e :: es) X.env = (false, eval e X.env) :: starEach es X.env := by rfl) (hpl : (backTo pos (starEach es X.env)).any (·.1) = false := by rfl) :
    PD X (.Call (.Name x p) (e :: es) [] pos) (tCall (spD X.K m) [] E0 t) (eCall m fa) := by
  refine ⟨pe_call G hr hg hm hk hb .nil pass0 ha.pe hdb he hpl, fun W F0 σ ρ F H d Q o e q => ?_⟩
  obtain ⟨ds, e1, e2⟩ := R.of_bind e
  refine ha.de W F0 σ ρ F H ds _ o e1 fun vs F1 H1 o1 s1 r1 => ?_
  show spD X.K m (vs ++ []) H1 Q E0
  rw [List.append_nil]
  exact ⟨F1, ds, d, o1.sub, r1, e2, fun v F' H' a b c n r => q v F' H' (o1.step a c b n) (s1.trans a) r⟩
end
end DD

/-! zip of two and enumerate of one of: a list, a tuple, a text -/
namespace DD
open PySem PySem.Spec PyProof.Rows L2
variable [Iota]

/-- what may be drawn from -/
inductive SK where
  | l (a : Addr) | t (a : Addr) | s (x : Str)
def SK.Of : SK → V → Prop
  | .l a, x => x = .ref a
  | .t a, x => x = .ref a
  | .s z, x => x = .str z
def chV (x : Str) : List V := x.cps.toList.map fun c => V.str ⟨#[c]⟩
def SK.Has (K : PySem.W.Frag) (H : Hp) : SK → List V → Prop
  | .l a, vs => SqL K H a vs
  | .t a, vs => SqT K H a vs
  | .s x, vs => vs = chV x
def SK.At : SK → Addr → Nat → Heap → Prop
  | .l a, it, i, h => h.IsListIter it a i
  | .t a, it, i, h => h.IsTupleIter it a i
  | .s x, it, i, h => ∃ t, h.IsStrIter it (strIterType x) x t i
def SK.objs : SK → List Addr
  | .l a => [a]
  | .t a => [a]
  | .s _ => []
theorem SK.At.there {k : SK} {it : Addr} {i : Nat} {h : Heap} (x : k.At it i h) : ∃ o, h.get? it = some o ∧ ∀ v, o.data ≠ .cell v := by
  cases k with
  | l a => obtain ⟨o, e, c, d⟩ := x; exact ⟨o, e, fun v z => by rw [d] at z; cases z⟩
  | t a => obtain ⟨o, e, c, d⟩ := x; exact ⟨o, e, fun v z => by rw [d] at z; cases z⟩
  | s z => obtain ⟨t, o, e, c, d⟩ := x; exact ⟨o, e, fun v z => by rw [d] at z; cases z⟩
theorem SK.At.at {k : SK} {it : Addr} {i : Nat} {h h' : Heap} (x : k.At it i h) (q : ∀ o, h.get? it = some o → h'.get? it = some o) : k.At it i h' := by
  cases k with
  | l a => obtain ⟨o, e, c, d⟩ := x; exact ⟨o, q o e, c, d⟩
  | t a => obtain ⟨o, e, c, d⟩ := x; exact ⟨o, q o e, c, d⟩
  | s z => obtain ⟨t, o, e, c, d⟩ := x; exact ⟨t, o, q o e, c, d⟩
section
variable {X : Cx} {pins : List (Addr × Obj)} {σ : L2.St} {H : Hp} {s : Shared}
theorem has_inj (I : Inv X pins σ H s) {k : SK} {xs ys : List V} (a : k.Has X.K H xs) (b : k.Has X.K H ys) : xs = ys := by
  cases k with
  | l p => exact I.list_inj a b
  | t p => exact I.tuple_inj a b
  | s z => exact (show xs = chV z from a).trans (show ys = chV z from b).symm
/-- the library's draws from it, in this state -/
theorem sk_draws (I : Inv X pins σ H s) (hh : X.A.in1.handled = none) {k : SK} {vs : List V} {it : Addr} {i : Nat} (h : k.Has X.K H vs) (st : k.At it i s.heap) (ne : ∀ a ∈ k.objs, a ≠ it) :
    ∃ (Pv : Nat → Value → Prop) (Sv : Nat → Heap → Prop), Draws X.prog X.w X.A.in1 it (it :: k.objs) vs.length Pv Sv ∧ Sv i s.heap ∧ (∀ j u, Pv j u → ∃ v, vs[j]? = some v ∧ RelV v u) ∧ ∀ j h', Sv j h' → k.At it j h' := by
  cases k with
  | l a =>
    obtain ⟨its, rv, p, hz⟩ := I.list h
    have hl : vs.length = its.toArray.size := by simpa using rv.length
    rw [hl]
    refine ⟨_, _, Draws.list hh it a (ne a (by simp [SK.objs])) its.toArray, ⟨st, p.isList⟩, fun j u hu => ?_, fun j h' x => x.1⟩
    have hj : j < vs.length := by
      have : j < its.length := (List.getElem?_eq_some_iff.mp (by simpa using hu)).1
      rw [rv.length]; exact this
    obtain ⟨u', hu', ru⟩ := rv.get (List.getElem?_eq_getElem hj)
    have e : u' = u := by
      have : its[j]? = some u := by simpa using hu
      rw [hu'] at this; exact Option.some.inj this
    subst e
    exact ⟨_, List.getElem?_eq_getElem hj, ru⟩
  | t a =>
    obtain ⟨its, rv, p, hz⟩ := I.tuple h
    have hl : vs.length = its.toArray.size := by simpa using rv.length
    rw [hl]
    refine ⟨_, _, Draws.tuple hh it a (ne a (by simp [SK.objs])) its.toArray, ⟨st, p⟩, fun j u hu => ?_, fun j h' x => x.1⟩
    have hj : j < vs.length := by
      have : j < its.length := (List.getElem?_eq_some_iff.mp (by simpa using hu)).1
      rw [rv.length]; exact this
    obtain ⟨u', hu', ru⟩ := rv.get (List.getElem?_eq_getElem hj)
    have e : u' = u := by
      have : its[j]? = some u := by simpa using hu
      rw [hu'] at this; exact Option.some.inj this
    subst e
    exact ⟨_, List.getElem?_eq_getElem hj, ru⟩
  | s z =>
    have e : vs = chV z := h
    subst e
    have hl : (chV z).length = z.cps.size := by simp [chV]
    rw [hl]
    obtain ⟨t, st⟩ := st
    refine ⟨_, _, Draws.text hh it z t, st, fun j u hu => ?_, fun j h' x => ⟨t, x⟩⟩
    obtain ⟨c, tk, hc, rfl⟩ := hu
    refine ⟨.str ⟨#[c]⟩, ?_, ⟨tk, rfl⟩⟩
    unfold chV
    rw [List.getElem?_map, Array.getElem?_toList, hc]
    rfl
/-- iter(it) begins -/
theorem sk_begins (I : Inv X pins σ H s) {k : SK} {vs : List V} {x : V} {u : Value} (hx : k.Of x) (r : RelV x u) (h : k.Has X.K H vs) :
    ∃ (o : Obj) (Hh : Heap → Prop), Begins u o Hh ∧ Hh s.heap ∧ (∀ (h' : Heap) it, h'.get? it = some o → k.At it 0 h') ∧ ∀ a ∈ k.objs, a < s.heap.objs.size := by
  cases k with
  | l a =>
    have e : x = .ref a := hx
    subst e
    cases r
    obtain ⟨its, rv, p, hz⟩ := I.list h
    exact ⟨_, _, begins_list a its.toArray, p.isList, fun h' it e => ⟨_, e, rfl, rfl⟩, fun b hb => by simp [SK.objs] at hb; subst hb; exact p.lt⟩
  | t a =>
    have e : x = .ref a := hx
    subst e
    cases r
    obtain ⟨its, rv, p, hz⟩ := I.tuple h
    exact ⟨_, _, begins_tuple a its.toArray, p, fun h' it e => ⟨_, e, rfl, rfl⟩, fun b hb => by simp [SK.objs] at hb; subst hb; exact p.lt⟩
  | s z =>
    have e : x = .str z := hx
    subst e
    obtain ⟨t, rfl⟩ := r
    exact ⟨_, _, begins_text z t, trivial, fun h' it e => ⟨t, _, e, rfl, rfl⟩, fun b hb => by simp [SK.objs] at hb⟩
end

/-! ### zip -/
def ItZ (K : PySem.W.Frag) (k1 k2 : SK) : It :=
  ⟨fun i H => ∃ xs ys x y, k1.Has K H xs ∧ k2.Has K H ys ∧ xs[i]? = some x ∧ ys[i]? = some y,
    fun i H v H' => ∃ T x y, v = .ref T ∧ H T = none ∧ H' = upd H T (.tup [x, y]) ∧ (∀ xs, k1.Has K H xs → xs[i]? = some x) ∧ ∀ ys, k2.Has K H ys → ys[i]? = some y,
    fun i H => ∃ xs ys, k1.Has K H xs ∧ k2.Has K H ys ∧ i ≤ xs.length ∧ i ≤ ys.length ∧ (i = xs.length ∨ i = ys.length)⟩
structure Sep (z TI TO i1 i2 : Addr) (k1 k2 : SK) : Prop where
  s2 : ZipSep2 z TI TO i1 i2 (i1 :: k1.objs) (i2 :: k2.objs)
  n1 : ∀ a ∈ k1.objs, a ≠ i1
  n2 : ∀ a ∈ k2.objs, a ≠ i2
theorem turn_zipK {P : Program} {w : World} {K : PySem.W.Frag} {elts : List Expr} {kk : Nat} {tpos : Pos} {k1 k2 : SK} {z TI TO i1 i2 : Addr} (S : Sep z TI TO i1 i2 k1 k2) :
    Turn P w K (.Tuple elts kk tpos) (ItZ K k1 k2) [z, TI, TO, i1, i2] z (fun i h => IsZip h z TI TO .none ∧ IsTupOf2 h TI (.ref i1) (.ref i2) ∧ (∃ x y, IsTupOf2 h TO x y) ∧ k1.At i1 i h ∧ k2.At i2 i h) where
  mem := by simp
  obj := fun i h st c hc => by
    obtain ⟨hz, hTI, ⟨x, y, hTO⟩, h1, h2⟩ := st
    have e' : c = z ∨ c = TI ∨ c = TO ∨ c = i1 ∨ c = i2 := by simpa using hc
    rcases e' with q | q | q | q | q
    · rw [q]; exact ⟨_, hz, fun v q => nomatch q⟩
    · rw [q]; exact ⟨_, hTI, fun v q => nomatch q⟩
    · rw [q]; exact ⟨_, hTO, fun v q => nomatch q⟩
    · rw [q]; exact h1.there
    · rw [q]; exact h2.there
  keep := fun i h h' st k => by
    obtain ⟨hz, hTI, ⟨x, y, hTO⟩, h1, h2⟩ := st
    exact ⟨k z (by simp) _ hz, k TI (by simp) _ hTI, ⟨x, y, k TO (by simp) _ hTO⟩, h1.at fun o q => k i1 (by simp) o q, h2.at fun o q => k i2 (by simp) o q⟩
  item := by
    intro X hP hw hK hc i pins s σ H E I hf st hg
    subst hP hw hK
    obtain ⟨hz, hTI, ⟨x0, y0, hTO⟩, h1, h2⟩ := st
    obtain ⟨xs, ys, x, y, hqx, hqy, hx, hy⟩ := hg
    obtain ⟨P1, S1, D1, st1, g1, k1'⟩ := sk_draws I (I.ok.hd hc) hqx h1 S.n1
    obtain ⟨P2, S2, D2, st2, g2, k2'⟩ := sk_draws I (I.ok.hd hc) hqy h2 S.n2
    have hlx : i < xs.length := (List.getElem?_eq_some_iff.mp hx).1
    have hly : i < ys.length := (List.getElem?_eq_some_iff.mp hy).1
    have hzl : z < s.heap.objs.size := Heap.lt_size hz
    refine wpAny_pyNext_zipD2_item S.s2 D1 D2 hz hTI hTO st1 st2 hlx hly fun u u2 h' tk p1 p2 z' TO' h1' h2' hT hsz hk => ?_
    obtain ⟨x', hx', ru⟩ := g1 _ _ p1
    rw [hx] at hx'
    cases hx'
    obtain ⟨y', hy', ru2⟩ := g2 _ _ p2
    rw [hy] at hy'
    cases hy'
    refine ⟨_, rfl, wpAny_letOwnedTupleGo_zip (s := { s with heap := h', toks := tk }) z' fun h'' z'' sb => ?_⟩
    have hT2 : h''.get? s.heap.objs.size = some { cls := .type "tuple", data := .seq #[u, u2] } := (sb.2 _ (Nat.ne_of_gt hzl)).trans hT
    have new : ObjOk X.prog X.w (upd H s.heap.objs.size (.tup [x, y])) h'' s.heap.objs.size (.tup [x, y]) :=
      ⟨by show 2 ≤ sizeLine; decide, [u, u2], .cons ru (.cons ru2 .nil), ⟨_, hT2, rfl, _, rfl⟩⟩
    have I1 : Inv X pins σ (upd H s.heap.objs.size (.tup [x, y])) { s with heap := h'', toks := tk } :=
      I.turnedNew (t' := tk) (ch := [z, TI, TO, i1, i2]) (fun c o hb q => (sb.2 c (fun q' => hb (by simp [q']))).trans (hk c o (fun q' => hb (by simp [q'])) (fun q' => hb (by simp [q'])) (fun q' => hb (by simp [q'])) (fun q' => hb (by simp [q'])) q)) hf (Nat.le_refl _) new
    refine ⟨.ref s.heap.objs.size, _, I1, rfl, ⟨_, x, y, rfl, I.hok.fresh (Nat.le_refl _), rfl, fun l hl => by rw [has_inj I hl hqx]; exact hx, fun l hl => by rw [has_inj I hl hqy]; exact hy⟩, ⟨z'', ?_, ⟨u, u2, ?_⟩, ?_, ?_⟩, fun c hcm => ?_⟩
    · exact (sb.2 _ S.s2.TIz).trans (hk _ _ S.s2.TIz S.s2.TITO S.s2.TIi1 S.s2.TIi2 hTI)
    · exact (sb.2 _ S.s2.TOz).trans TO'
    · exact (k1' _ _ h1').at fun o q => (sb.2 _ (Ne.symm S.s2.zi1)).trans q
    · exact (k2' _ _ h2').at fun o q => (sb.2 _ (Ne.symm S.s2.zi2)).trans q
    · have hlt : c < s.heap.objs.size := by
        have e' : c = z ∨ c = TI ∨ c = TO ∨ c = i1 ∨ c = i2 := by simpa using hcm
        rcases e' with q | q | q | q | q
        · rw [q]; exact hzl
        · rw [q]; exact Heap.lt_size hTI
        · rw [q]; exact Heap.lt_size hTO
        · rw [q]; obtain ⟨_, e1, _⟩ := h1.there; exact Heap.lt_size e1
        · rw [q]; obtain ⟨_, e2, _⟩ := h2.there; exact Heap.lt_size e2
      rw [upd_ne (Nat.ne_of_lt hlt)]
      exact (hf c hcm).1
  done := by
    intro X hP hw hK hc i pins s σ H E I hf st hg
    subst hP hw hK
    obtain ⟨hz, hTI, ⟨x0, y0, hTO⟩, h1, h2⟩ := st
    obtain ⟨xs, ys, hqx, hqy, hix, hiy, hend⟩ := hg
    obtain ⟨P1, S1, D1, st1, g1, k1'⟩ := sk_draws I (I.ok.hd hc) hqx h1 S.n1
    obtain ⟨P2, S2, D2, st2, g2, k2'⟩ := sk_draws I (I.ok.hd hc) hqy h2 S.n2
    exact wpAny_pyNext_zipD2_end S.s2 D1 D2 hz hTI hTO st1 st2 hix hiy hend fun h' tk hk => ⟨rfl, I.turnedL (t' := tk) (ch := [z, TI, TO, i1, i2]) (fun c o hb q =>
      hk c o (fun q' => hb (by simp [q'])) (fun q' => hb (by simp [q'])) (fun q' => hb (by simp [q'])) (fun q' => hb (by simp [q'])) q) hf⟩
  self := fun A i s Q E st h => wpAny_pyIter_zip st.1 h
def iZipK (K : PySem.W.Frag) (ta : TA) : TI := fun σ H R => ta σ H fun vs H1 => ∃ (x y : V) (k1 k2 : SK) (xs ys : List V), vs = [x, y] ∧ k1.Of x ∧ k2.Of y ∧ k1.Has K H1 xs ∧ k2.Has K H1 ys ∧ R (ItZ K k1 k2) H1
theorem pi_zipK {X : Cx} {e e2 : Expr} {ta : TA} {p pos tpos : Pos} {elts : List Expr} {kk : Nat} (hg : Gl X "zip") (hm : X.mg "zip" = none) (ha : PA X [e, e2] ta)
    (hs : starEach [e, e2] X.env = (false, eval e X.env) :: starEach [e2] X.env := by rfl) (hpl : (backTo pos (starEach [e2] X.env)).any (·.1) = false := by rfl) :
    PI X (.Tuple elts kk tpos) (.Call (.Name "zip" p) [e, e2] [] pos) (iZipK X.K ta) := by
  refine ⟨fun pins s σ H R I h => ?_⟩
  refine Call_ (ld_blt I hg hm PyProof.Rows.boot_zip (PyProof.Rows.callWith_type1 (thn (ha.run pos pins s σ H _ I h) fun us s1 ⟨vs, H1, I1, r1, q1⟩ => ?_) hs hpl))
  obtain ⟨x, y, k1, k2, xs, ys, ex, o1, o2, hq1, hq2, q⟩ := q1
  subst ex
  cases r1 with
  | cons r rr =>
    cases rr with
    | cons r' rr =>
      cases rr
      obtain ⟨ob1, Hh1, B1, b1, at1, lt1⟩ := sk_begins I1 o1 r hq1
      obtain ⟨ob2, Hh2, B2, b2, at2, lt2⟩ := sk_begins I1 o2 r' hq2
      refine zip_begins2 B1 B2 b1 b2 fun h' hz hTI hTO h1 h2 hsz hk => wpAny_pyIter_zip hz ?_
      have I2 : Inv X pins σ H1 { s1 with heap := h' } := I1.kept (t' := s1.toks) hk
      have S : Sep (s1.heap.objs.size + 4) (s1.heap.objs.size + 2) (s1.heap.objs.size + 3) s1.heap.objs.size (s1.heap.objs.size + 1) k1 k2 :=
        ⟨zip_sep2 lt1 lt2, fun a ha => Nat.ne_of_lt (lt1 a ha), fun a ha => Nat.ne_of_lt (Nat.lt_succ_of_lt (lt2 a ha))⟩
      refine ⟨s1.heap.objs.size + 4, [s1.heap.objs.size + 4, s1.heap.objs.size + 2, s1.heap.objs.size + 3, s1.heap.objs.size, s1.heap.objs.size + 1], _, _, H1, rfl, I2, turn_zipK S, ⟨hz, hTI, ⟨_, _, hTO⟩, at1 _ _ h1, at2 _ _ h2⟩, fun c hcm => ?_, q⟩
      have e' : c = s1.heap.objs.size + 4 ∨ c = s1.heap.objs.size + 2 ∨ c = s1.heap.objs.size + 3 ∨ c = s1.heap.objs.size ∨ c = s1.heap.objs.size + 1 := by simpa using hcm
      have hle : s1.heap.objs.size ≤ c := by
        rcases e' with z | z | z | z | z
        · rw [z]; exact Nat.le_add_right _ _
        · rw [z]; exact Nat.le_add_right _ _
        · rw [z]; exact Nat.le_add_right _ _
        · rw [z]; exact Nat.le_refl _
        · rw [z]; exact Nat.le_add_right _ _
      exact I1.fpOk hle (I1.hok.fresh hle)
/-! ### enumerate -/
def ItE (K : PySem.W.Frag) (k : SK) : It :=
  ⟨fun i H => ∃ xs x, k.Has K H xs ∧ xs[i]? = some x, fun i H v H' => ∃ T x, v = .ref T ∧ H T = none ∧ H' = upd H T (.tup [.int (i : Nat), x]) ∧ ∀ xs, k.Has K H xs → xs[i]? = some x, fun i H => ∃ xs, k.Has K H xs ∧ i = xs.length⟩
theorem turn_enumK {P : Program} {w : World} {K : PySem.W.Frag} {elts : List Expr} {kk : Nat} {tpos : Pos} {k : SK} (e it : Addr) (hne : e ≠ it) (no : ∀ a ∈ k.objs, a ≠ it ∧ a ≠ e) :
    Turn P w K (.Tuple elts kk tpos) (ItE K k) [e, it] e (fun i h => (∃ old, IsEnum h e it ((i : Nat) : Int) old) ∧ k.At it i h) where
  mem := by simp
  obj := fun i h st b hb => by
    obtain ⟨⟨old, he⟩, ha⟩ := st
    have e' : b = e ∨ b = it := by simpa using hb
    rcases e' with z | z
    · rw [z]; exact ⟨_, he, fun v q => nomatch q⟩
    · rw [z]; exact ha.there
  keep := fun i h h' st k => let ⟨⟨old, he⟩, hi⟩ := st; ⟨⟨old, k e (by simp) _ he⟩, hi.at fun o q => k it (by simp) o q⟩
  item := by
    intro X hP hw hK hc i pins s σ H E I hf st hg
    subst hP hw hK
    obtain ⟨⟨old, he⟩, hit⟩ := st
    obtain ⟨xs, x, hq, hx⟩ := hg
    obtain ⟨P1, S1, D1, st1, g1, k1'⟩ := sk_draws I (I.ok.hd hc) hq hit fun a ha => (no a ha).1
    have hel : e < s.heap.objs.size := Heap.lt_size he
    have hil : it < s.heap.objs.size := by obtain ⟨_, q, _⟩ := hit.there; exact Heap.lt_size q
    have hlx : i < xs.length := (List.getElem?_eq_some_iff.mp hx).1
    have hef : e ∉ it :: k.objs := fun hm => by
      rcases List.mem_cons.mp hm with z | z
      · exact hne z
      · exact (no e z).2 rfl
    refine wpAny_pyNext_enum_itemD D1 he st1 hlx hne hef fun u h' tk pu ho hit' hT hsz hk => ?_
    obtain ⟨x', hx', ru⟩ := g1 _ _ pu
    rw [hx] at hx'
    cases hx'
    refine ⟨_, rfl, wpAny_letOwnedTupleGo_enum (s := { s with heap := h', toks := tk + 1 }) ho fun h'' he' sb => ?_⟩
    have hT2 : h''.get? s.heap.objs.size = some { cls := .type "tuple", data := .seq #[.int i tk, u] } := (sb.2 _ (Nat.ne_of_gt hel)).trans hT
    have new : ObjOk X.prog X.w (upd H s.heap.objs.size (.tup [.int (i : Nat), x])) h'' s.heap.objs.size (.tup [.int (i : Nat), x]) :=
      ⟨by show 2 ≤ sizeLine; decide, [.int i tk, u], .cons ⟨_, rfl⟩ (.cons ru .nil), ⟨_, hT2, rfl, _, rfl⟩⟩
    have I1 : Inv X pins σ (upd H s.heap.objs.size (.tup [.int (i : Nat), x])) { s with heap := h'', toks := tk + 1 } :=
      I.turnedNew (t' := tk + 1) (ch := [e, it]) (fun b ob hb q => (sb.2 b (fun z => hb (by simp [z]))).trans (hk b ob (fun z => hb (by simp [z])) (fun z => hb (by simp [z])) q)) hf (Nat.le_refl _) new
    refine ⟨.ref s.heap.objs.size, _, I1, rfl, ⟨_, x, rfl, I.hok.fresh (Nat.le_refl _), rfl, fun ys hy => by rw [has_inj I hy hq]; exact hx⟩, ⟨⟨u, ?_⟩, (k1' _ _ hit').at fun o q => (sb.2 it (Ne.symm hne)).trans q⟩, fun b hb => ?_⟩
    · have e1 : ((i + 1 : Nat) : Int) = (i : Int) + 1 := by omega
      rw [e1]; exact he'
    · have hb' : b < s.heap.objs.size := by
        have e' : b = e ∨ b = it := by simpa using hb
        rcases e' with z | z
        · rw [z]; exact hel
        · rw [z]; exact hil
      rw [upd_ne (Nat.ne_of_lt hb')]
      exact (hf b hb).1
  done := by
    intro X hP hw hK hc i pins s σ H E I hf st hg
    subst hP hw hK
    obtain ⟨⟨old, he⟩, hit⟩ := st
    obtain ⟨xs, hq, hx⟩ := hg
    obtain ⟨P1, S1, D1, st1, g1, k1'⟩ := sk_draws I (I.ok.hd hc) hq hit fun a ha => (no a ha).1
    obtain ⟨f0, f1, f2, f3, f4, f5⟩ := hf it (by simp)
    rw [hx] at st1
    exact wpAny_pyNext_enum_endD D1 he st1 fun h' eb => ⟨rfl, I.turned (t' := s.toks) (fun b o hb q => eb b o hb q) f0 f1 f3 f4 f5⟩
  self := fun A i s Q E st h => let ⟨⟨_, he⟩, _⟩ := st; wpAny_pyIter_enum he h
def iEnumK (K : PySem.W.Frag) (ta : TA) : TI := fun σ H R => ta σ H fun vs H1 => ∃ (x : V) (k : SK) (xs : List V), vs = [x] ∧ k.Of x ∧ k.Has K H1 xs ∧ R (ItE K k) H1
end DD

namespace PySem
namespace DDE
open Sem (wp)
theorem meets_enumB {v : Value} {o : Obj} {H : Heap → Prop} (B : Begins v o H) :
    Meets (Builtin.«enumerate.__new__» ⟨[.type "enumerate", v], []⟩) (fun _ R s => H s.heap ∧
      R (.ok (.ret (.ref (s.heap.push o).objs.size))) { s with heap := (s.heap.push o).push { cls := .type "enumerate", data := .fields #[.none, .bool false, .ref s.heap.objs.size, rawInt 0, .none, .none] } }) :=
  .of_wp fun prog w A R s h => by
    obtain ⟨hp, g, d, tk, os⟩ := s; obtain ⟨h1, h⟩ := h
    have hsub := sub_enumerate
    have q1 : ∀ {A' : Around} {E : Value → Shared → Prop} {Q : Value → Shared → Prop}, Q (.ref hp.objs.size) ⟨hp.push o, g, d, tk, os⟩ → wpAny (model prog w) A' (pyIter v) Q E ⟨hp, g, d, tk, os⟩ :=
      fun q => B.iter prog w _ _ ⟨hp, g, d, tk, os⟩ _ h1 q
    wp_walk using q1
    refine wpAny_stack_any fun st => wpAny_pure ?_
    split
    · rename_i c _ _ _ _ _
      cases (c == Value.type "enumerate")
      · wp_walk using q1
        exact ⟨_, rfl, h⟩
      · wp_walk using q1
        exact ⟨_, rfl, h⟩
    · wp_walk using q1
      exact ⟨_, rfl, h⟩
theorem call_enumB {prog : Program} {w : World} {A : Around} {E : Value → Shared → Prop} {s : Shared} {v : Value} {o : Obj} {H : Heap → Prop} {Q : Value → Shared → Prop} (B : Begins v o H) (h1 : H s.heap)
    (h : ∀ h', IsEnum h' (s.heap.objs.size + 1) s.heap.objs.size 0 .none → h'.get? s.heap.objs.size = some o → h'.objs.size = s.heap.objs.size + 2 →
      (∀ b o, s.heap.get? b = some o → h'.get? b = some o) → Q (.ref (s.heap.objs.size + 1)) { s with heap := h' }) : wpAny (model prog w) A (call (.type "enumerate") [v]) Q E s := by
  refine callType_new F.called_enumerate (by decide) (F.typeCall_enumerate_1 _) (F.newCall_enumerate_1 _) (fun obj => F.args_object_init_2 obj _) F.entry_enumerate_new (meets_enumB B) ⟨h1, ?_⟩
  have hz : (s.heap.push o).objs.size = s.heap.objs.size + 1 := Heap.size_push ..
  show _ ∧ _
  rw [hz]
  have he : IsEnum ((s.heap.push o).push { cls := .type "enumerate", data := .fields #[.none, .bool false, .ref s.heap.objs.size, rawInt 0, .none, .none] }) (s.heap.objs.size + 1) s.heap.objs.size 0 .none := by
    have := Heap.get?_push_size (s.heap.push o) (o := { cls := .type "enumerate", data := .fields #[.none, .bool false, .ref s.heap.objs.size, rawInt 0, .none, .none] }) rfl
    rw [hz] at this; exact this
  exact ⟨⟨_, he, rfl⟩, h _ he (Heap.get?_push_of_some _ (Heap.get?_push_size _ B.free)) (by rw [Heap.size_push, hz]) fun b o x => Heap.get?_push_of_some _ (Heap.get?_push_of_some _ x)⟩
end DDE
end PySem
namespace DD
open PySem PySem.Spec PyProof.Rows L2
variable [Iota]
theorem pi_enumK {X : Cx} {e : Expr} {ta : TA} {p pos tpos : Pos} {elts : List Expr} {kk : Nat} (hg : Gl X "enumerate") (hm : X.mg "enumerate" = none) (ha : PA X [e] ta) (hs : starEach [e] X.env = [(false, eval e X.env)] := by rfl) :
    PI X (.Tuple elts kk tpos) (.Call (.Name "enumerate" p) [e] [] pos) (iEnumK X.K ta) := by
  refine ⟨fun pins s σ H R I h => ?_⟩
  refine Call_ (ld_blt I hg hm PyProof.Rows.boot_enumerate (PyProof.Rows.callWith_type1 (thn (ha.run pos pins s σ H _ I h) fun us s1 ⟨vs, H1, I1, r1, q1⟩ => ?_) hs rfl))
  obtain ⟨x, k, xs, ex, o1, hq, q⟩ := q1
  subst ex
  cases r1 with
  | cons r rr =>
    cases rr
    obtain ⟨ob, Hh, B, b1, at1, lt1⟩ := sk_begins I1 o1 r hq
    refine DDE.call_enumB B b1 fun h' he hit hsz hk => wpAny_pyIter_enum he ?_
    have I2 : Inv X pins σ H1 { s1 with heap := h' } := I1.kept (t' := s1.toks) hk
    refine ⟨s1.heap.objs.size + 1, [s1.heap.objs.size + 1, s1.heap.objs.size], _, _, H1, rfl, I2, turn_enumK (s1.heap.objs.size + 1) s1.heap.objs.size (Nat.succ_ne_self _) (fun a ha => ⟨Nat.ne_of_lt (lt1 a ha), Nat.ne_of_lt (Nat.lt_succ_of_lt (lt1 a ha))⟩), ⟨⟨.none, he⟩, at1 _ _ hit⟩, fun b hb => ?_, q⟩
    have e' : b = s1.heap.objs.size + 1 ∨ b = s1.heap.objs.size := by simpa using hb
    have hle : s1.heap.objs.size ≤ b := by
      rcases e' with z | z
      · rw [z]; exact Nat.le_add_right _ _
      · rw [z]; exact Nat.le_refl _
    exact I1.fpOk hle (I1.hok.fresh hle)

/-! ### the items of a sequence -/
def items : D → R (List D)
  | .ktup ds => .ok ds
  | .tup ds => .ok ds
  | .lst ds => .ok ds
  | .rol ds => .ok ds
  | .str z => .ok (chars z)
  | _ => .bad
theorem rps_chars {K : PySem.W.Frag} {F : Hp} (z : Str) : Rps K F (chV z) (chars z) := by
  refine .of (by simp [chV, chars]) fun i v d h1 h2 => ?_
  unfold chV at h1
  unfold chars at h2
  rw [List.getElem?_map, Array.getElem?_toList] at h1 h2
  cases e : z.cps[i]? with
  | none => rw [e] at h1; cases h1
  | some c =>
    rw [e] at h1 h2
    cases h1; cases h2
    exact rp_str.mpr rfl
/-- the source of data -/
theorem sk_of {K : PySem.W.Frag} {F : Hp} {v : V} {d : D} {ds : List D} (r : Rp K F v d) (h : items d = .ok ds) : ∃ (k : SK) (xs : List V), k.Of v ∧ Rps K F xs ds ∧ ∀ F2 H2, Same F F2 → Same F2 H2 → k.Has K H2 xs := by
  cases d <;> first | (cases h; done) | skip
  · cases h
    cases rp_str.mp r
    exact ⟨.s _, _, rfl, rps_chars _, fun _ _ _ _ => rfl⟩
  · cases h
    obtain ⟨a, xs, rfl, ha, r⟩ := rp_tup.mp r
    exact ⟨.t a, xs, rfl, r, fun F2 H2 s2 s3 => Same.seqT (s2.trans s3) ha⟩
  · cases h
    obtain ⟨a, xs, rfl, ha, r⟩ := rp_lst.mp r
    exact ⟨.l a, xs, rfl, r, fun F2 H2 s2 s3 => SqL.of (s3 _ _ (s2 _ _ ha))⟩
  · cases h
    obtain ⟨a, xs, rfl, ha, r⟩ := rp_rol.mp r
    exact ⟨.l a, xs, rfl, r, fun F2 H2 s2 s3 => s3.seq (s2.seq ha)⟩
  · cases h
    obtain ⟨a, xs, rfl, ha, r⟩ := rp_ktup.mp r
    exact ⟨.t a, xs, rfl, r, fun F2 H2 s2 s3 => Same.kseqT (s2.trans s3) ha⟩
def zipD : List D → List D → List D
  | a :: as, b :: bs => .tup [a, b] :: zipD as bs
  | _, _ => []
theorem zipD_length : ∀ as bs : List D, (zipD as bs).length = min as.length bs.length
  | [], bs => by simp [zipD]
  | a :: as, [] => by simp [zipD]
  | a :: as, b :: bs => by simp [zipD, zipD_length as bs]
theorem zipD_get : ∀ {as bs : List D} {i : Nat} {d : D}, (zipD as bs)[i]? = some d → ∃ a b, as[i]? = some a ∧ bs[i]? = some b ∧ d = .tup [a, b]
  | [], bs, i, d, h => by simp [zipD] at h
  | a :: as, [], i, d, h => by simp [zipD] at h
  | a :: as, b :: bs, 0, d, h => by simp [zipD] at h; exact ⟨a, b, rfl, rfl, h.symm⟩
  | a :: as, b :: bs, i + 1, d, h => by
    obtain ⟨x, y, h1, h2, h3⟩ := zipD_get (as := as) (bs := bs) (i := i) (d := d) (by simpa [zipD] using h)
    exact ⟨x, y, by simpa using h1, by simpa using h2, h3⟩
def dZip : List D → R (List D)
  | [x, y] => items x >>= fun as => items y >>= fun bs => .ok (zipD as bs)
  | _ => .bad
def enumD (k : Nat) : List D → List D
  | [] => []
  | d :: ds => .tup [.int (k : Int), d] :: enumD (k + 1) ds
theorem enumD_length : ∀ (ds : List D) (k : Nat), (enumD k ds).length = ds.length
  | [], k => rfl
  | d :: ds, k => by simp [enumD, enumD_length ds]
theorem enumD_get : ∀ {ds : List D} {k i : Nat} {d : D}, (enumD k ds)[i]? = some d → ∃ a, ds[i]? = some a ∧ d = .tup [.int ((k + i : Nat) : Int), a]
  | [], k, i, d, h => by simp [enumD] at h
  | a :: ds, k, 0, d, h => by simp [enumD] at h; exact ⟨a, rfl, h.symm⟩
  | a :: ds, k, i + 1, d, h => by
    obtain ⟨x, h1, h2⟩ := enumD_get (ds := ds) (k := k + 1) (i := i) (d := d) (by simpa [enumD] using h)
    exact ⟨x, by simpa using h1, by rw [h2, show k + 1 + i = k + (i + 1) from by omega]⟩
def dEnum : List D → R (List D)
  | [x] => items x >>= fun as => .ok (enumD 0 as)
  | _ => .bad
section
variable {X : Cx} {e e2 : Expr} {ta : TA} {fa : En → R (List D)} {p pos tpos : Pos} {elts : List Expr} {kk : Nat}
theorem pid_zip (hm : X.mg "zip" = none) (ha : PAD X [e, e2] ta fa) (hg : Gl X "zip" := by rfl)
    (hs : starEach [e, e2] X.env = (false, eval e X.env) :: starEach [e2] X.env := by rfl) (hpl : (backTo pos (starEach [e2] X.env)).any (·.1) = false := by rfl) :
    PID X (.Tuple elts kk tpos) (.Call (.Name "zip" p) [e, e2] [] pos) (iZipK X.K ta) (fun ρ => fa ρ >>= dZip) := by
  refine ⟨pi_zipK hg hm ha.pe hs hpl, fun W F0 σ ρ F H ds Rk o e q => ?_⟩
  obtain ⟨xs, e1, e2⟩ := R.of_bind e
  refine ha.de W F0 σ ρ F H xs _ o e1 fun vs F1 H1 o1 s1 r1 => ?_
  unfold dZip at e2
  split at e2
  · obtain ⟨as, e3, e4⟩ := R.of_bind e2
    obtain ⟨bs, e5, e6⟩ := R.of_bind e4
    cases e6
    obtain ⟨y, ys, rfl, r2, r3⟩ := r1.of_cons
    obtain ⟨z, zs, rfl, r4, r5⟩ := r3.of_cons
    cases r5.of_nil
    obtain ⟨k1, us, ok1, ru, h1⟩ := sk_of r2 e3
    obtain ⟨k2, ws, ok2, rw', h2⟩ := sk_of r4 e5
    have lu := ru.length
    have lw := rw'.length
    refine ⟨y, z, k1, k2, us, ws, rfl, ok1, ok2, h1 _ _ (Same.refl _) o1.sub, h2 _ _ (Same.refl _) o1.sub, q _ F1 H1 o1 s1 fun F2 H2 s2 s3 i => ⟨fun hi => ?_, fun d hd => ?_⟩⟩
    · rw [zipD_length] at hi
      exact ⟨us, ws, h1 _ _ s2 s3, h2 _ _ s2 s3, by omega, by omega, by omega⟩
    · obtain ⟨a, b, ha', hb', rfl⟩ := zipD_get hd
      obtain ⟨u, hu, ru'⟩ := ru.get ha'
      obtain ⟨w, hw, rw''⟩ := rw'.get hb'
      refine ⟨⟨us, ws, u, w, h1 _ _ s2 s3, h2 _ _ s2 s3, hu, hw⟩, fun x H3 hy => ?_⟩
      obtain ⟨T, x', y', rfl, hT, rfl, g1, g2⟩ := hy
      have q1 := g1 us (h1 _ _ s2 s3)
      have q2 := g2 ws (h2 _ _ s2 s3)
      rw [hu] at q1
      rw [hw] at q2
      cases q1; cases q2
      have hf : F2 T = none := Same.free s3 hT
      have sT := s2.trans (same_upd (u := .tup [u, w]) hf)
      exact .inr ⟨T, _, hT, rfl, rp_tup.mpr ⟨T, _, rfl, upd_same, .cons (ru'.mono sT) (.cons (rw''.mono sT) .nil)⟩⟩
  · cases e2
theorem pid_enum (hm : X.mg "enumerate" = none) (ha : PAD X [e] ta fa) (hg : Gl X "enumerate" := by rfl) (hs : starEach [e] X.env = [(false, eval e X.env)] := by rfl) :
    PID X (.Tuple elts kk tpos) (.Call (.Name "enumerate" p) [e] [] pos) (iEnumK X.K ta) (fun ρ => fa ρ >>= dEnum) := by
  refine ⟨pi_enumK hg hm ha.pe hs, fun W F0 σ ρ F H ds Rk o e q => ?_⟩
  obtain ⟨xs, e1, e2⟩ := R.of_bind e
  refine ha.de W F0 σ ρ F H xs _ o e1 fun vs F1 H1 o1 s1 r1 => ?_
  unfold dEnum at e2
  split at e2
  · obtain ⟨as, e3, e4⟩ := R.of_bind e2
    cases e4
    obtain ⟨y, ys, rfl, r2, r3⟩ := r1.of_cons
    cases r3.of_nil
    obtain ⟨k1, us, ok1, ru, h1⟩ := sk_of r2 e3
    have lu := ru.length
    refine ⟨y, k1, us, rfl, ok1, h1 _ _ (Same.refl _) o1.sub, q _ F1 H1 o1 s1 fun F2 H2 s2 s3 i => ⟨fun hi => ?_, fun d hd => ?_⟩⟩
    · rw [enumD_length] at hi
      exact ⟨us, h1 _ _ s2 s3, by omega⟩
    · obtain ⟨a, ha', rfl⟩ := enumD_get hd
      obtain ⟨u, hu, ru'⟩ := ru.get ha'
      refine ⟨⟨us, u, h1 _ _ s2 s3, hu⟩, fun x H3 hy => ?_⟩
      obtain ⟨T, x', rfl, hT, rfl, g1⟩ := hy
      have q1 := g1 us (h1 _ _ s2 s3)
      rw [hu] at q1
      cases q1
      have hf : F2 T = none := Same.free s3 hT
      have sT := s2.trans (same_upd (u := .tup [.int (i : Nat), u]) hf)
      refine .inr ⟨T, _, hT, rfl, rp_tup.mpr ⟨T, _, rfl, upd_same, .cons (rp_int.mpr ?_) (.cons (ru'.mono sT) .nil)⟩⟩
      rw [Nat.zero_add]
  · cases e2
/-- any sequence, walked -/
theorem pid_seq {tg l : Expr} {tl : TE} {f : En → R D} (h : PID X tg l (iList X.K tl) (fun ρ => f ρ >>= asLst)) : True := trivial
end

/-! ### in: one sign in a text, flat data in a list or a tuple -/
def flatD : D → Bool
  | .non => true | .bl _ => true | .int _ => true | .str _ => true | _ => false
def eqD : D → D → Bool
  | .non, .non => true
  | .bl a, .bl b => a == b
  | .bl a, .int b => (if a then 1 else 0) == b
  | .int a, .bl b => a == (if b then 1 else 0)
  | .int a, .int b => a == b
  | .str a, .str b => a == b
  | _, _ => false
theorem flat_ok {K : PySem.W.Frag} {F : Hp} {v : V} {d : D} (r : Rp K F v d) (h : flatD d = true) : flatV v = true := by
  cases d <;> first | (cases h; done) | (simp only [Rp] at r; subst r; rfl)
theorem eq_ok {K : PySem.W.Frag} {F : Hp} {v w : V} {d e : D} (r : Rp K F v d) (r' : Rp K F w e) (h : flatD d = true) (h' : flatD e = true) : eqV v w = eqD d e := by
  cases d <;> first | (cases h; done) | (cases e <;> first | (cases h'; done) | (simp only [Rp] at r r'; subst r; subst r'; rfl))
theorem flats_ok {K : PySem.W.Frag} {F : Hp} : ∀ {vs : List V} {ds : List D}, Rps K F vs ds → ds.all flatD = true → vs.all flatV = true
  | vs, [], r, _ => by rw [r.of_nil]; rfl
  | vs, d :: ds, r, h => by
    obtain ⟨y, ys, rfl, r1, r2⟩ := r.of_cons
    rw [List.all_cons, Bool.and_eq_true] at h ⊢
    exact ⟨flat_ok r1 h.1, flats_ok r2 h.2⟩
theorem in_ok {K : PySem.W.Frag} {F : Hp} {x : V} {dx : D} (rx : Rp K F x dx) (hx : flatD dx = true) : ∀ {vs : List V} {ds : List D}, Rps K F vs ds → ds.all flatD = true → inV x vs = ds.any fun d => eqD d dx
  | vs, [], r, _ => by rw [r.of_nil]; rfl
  | vs, d :: ds, r, h => by
    obtain ⟨y, ys, rfl, r1, r2⟩ := r.of_cons
    rw [List.all_cons, Bool.and_eq_true] at h
    have ih := in_ok rx hx r2 h.2
    unfold inV at ih ⊢
    rw [List.any_cons, List.any_cons, ih, eq_ok r1 rx h.1 hx]
def inQ (x : D) (ds : List D) : R Bool := guardR (flatD x && ds.all flatD) >>= fun _ => .ok (ds.any fun d => eqD d x)
def inB : D → D → R Bool
  | .str a, .str z => match a.cps.toList with
    | [c] => .ok (decide (c ∈ z.cps.toList))
    | _ => .bad
  | x, .tup ds => inQ x ds
  | x, .lst ds => inQ x ds
  | x, .rol ds => inQ x ds
  | _, _ => .bad
def dIn (x y : D) : R D := inB x y >>= fun b => .ok (.bl b)
def dNotIn (x y : D) : R D := inB x y >>= fun b => .ok (.bl (!b))
def rInS (neg : Bool) : R2 := fun x y H Q => ∃ (c : Nat) (z : Str), x = .str ⟨#[c]⟩ ∧ y = .str z ∧ Q (.bl (if neg then !decide (c ∈ z.cps.toList) else decide (c ∈ z.cps.toList))) H
def rInA (K : PySem.W.Frag) (neg : Bool) : R2 := fun x y H Q => rInS neg x y H Q ∨ rIn K neg x y H Q
section
variable {X : Cx}
theorem op_inA : OpR X (compareOp .In) (rInA X.K false) := OpR.or (r := rInS false) op_in_sign op_in_seq
theorem op_notInA : OpR X (compareOp .NotIn) (rInA X.K true) := OpR.or (r := rInS true) op_notIn_sign op_notIn_seq
end
theorem one_cp {a : Str} {c : Nat} (h : a.cps.toList = [c]) : a = ⟨#[c]⟩ := TL.ext_tl (by rw [show TL.tl a = [c] from h])
theorem inB_ok {K : PySem.W.Frag} {neg : Bool} {W F0 F H : Hp} {σ : L2.St} {ρ : En} {x y : V} {dx dy : D} {b : Bool} {Q : VK} (o : Ok K W F0 σ ρ F H) (rx : Rp K F x dx) (ry : Rp K F y dy) (h : inB dx dy = .ok b) (q : Q (.bl (if neg then !b else b)) H) : rInA K neg x y H Q := by
  unfold inB at h
  split at h
  · split at h
    · rename_i c hc
      cases h
      exact .inl ⟨c, _, by rw [rp_str.mp rx, one_cp hc], rp_str.mp ry, q⟩
    · cases h
  · obtain ⟨u, g, h⟩ := R.of_bind h
    cases h
    have g' := of_guard g
    rw [Bool.and_eq_true] at g'
    obtain ⟨a, xs, rfl, ha, r⟩ := rp_tup.mp ry
    exact .inr ⟨a, xs, rfl, .inr (Same.seqT o.sub ha), flat_ok rx g'.1, flats_ok r g'.2, by rw [in_ok rx g'.1 r g'.2]; exact q⟩
  · obtain ⟨u, g, h⟩ := R.of_bind h
    cases h
    have g' := of_guard g
    rw [Bool.and_eq_true] at g'
    obtain ⟨a, xs, rfl, ha, r⟩ := rp_lst.mp ry
    exact .inr ⟨a, xs, rfl, .inl (SqL.of (o.sub _ _ ha)), flat_ok rx g'.1, flats_ok r g'.2, by rw [in_ok rx g'.1 r g'.2]; exact q⟩
  · obtain ⟨u, g, h⟩ := R.of_bind h
    cases h
    have g' := of_guard g
    rw [Bool.and_eq_true] at g'
    obtain ⟨a, xs, rfl, ha, r⟩ := rp_rol.mp ry
    exact .inr ⟨a, xs, rfl, .inl (o.sub.seq ha), flat_ok rx g'.1, flats_ok r g'.2, by rw [in_ok rx g'.1 r g'.2]; exact q⟩
  · cases h
theorem dr_in {K : PySem.W.Frag} : DR2 K (rInA K false) dIn := fun W F0 σ ρ F H x y dx dy d Q o rx ry e q => by
  obtain ⟨b, e1, e2⟩ := R.of_bind e
  cases e2
  exact inB_ok o rx ry e1 (q _ F H o (Same.refl _) (rp_bl.mpr rfl))
theorem dr_notIn {K : PySem.W.Frag} : DR2 K (rInA K true) dNotIn := fun W F0 σ ρ F H x y dx dy d Q o rx ry e q => by
  obtain ⟨b, e1, e2⟩ := R.of_bind e
  cases e2
  exact inB_ok o rx ry e1 (q _ F H o (Same.refl _) (rp_bl.mpr rfl))

/-! ### a dict of the module with text keys -/
/-- at d: a written dict with these texts as keys, data behind them -/
structure CDict (K : PySem.W.Frag) (w : World) (a : Addr) (t : List (Str × D)) : Prop where
  kd : ∃ es n, KDict K w a es n
  at_ : ∀ z d, t.lookup z = some d → ∃ (u : Value) (v : V), PySem.W.nsIn K a z = some (some u) ∧ RelV v u ∧ ∀ F, Rp K F v d
  no : ∀ z, t.lookup z = none → PySem.W.nsIn K a z = some none
def cIn (t : List (Str × D)) : D → R D
  | .str z => .ok (.bl (t.lookup z).isSome)
  | _ => .bad
def cAt (t : List (Str × D)) : D → R D
  | .str z => match t.lookup z with
    | some d => .ok d
    | none => .bad
  | _ => .bad
section
variable {X : Cx} {e : Expr} {te : TE} {f : En → R D} {t : List (Str × D)} {a : Addr} {x : Str} {p pos : Pos}
theorem ptd_inC (C : CDict X.K X.w a t) (hm : X.mg x = some (.ref a)) (he : PD X e te f) (hg : Gl X x := by rfl) (hdb : (x == ("__debug__" : Str)) = false := by decide) (hb : behindInMarks .In (.Name x p) = false := by rfl) :
    ∃ tt, PTD X (.Compare e [.In] [.Name x p] pos) tt (tst (fun ρ => f ρ >>= cIn t)) := by
  obtain ⟨es, n, kd⟩ := C.kd
  refine ⟨_, pt_cmpR (op_in_kd kd) he.pe (pe_glob (v := .ref a) hg hm rfl hdb) hb, dt_of fun W F0 σ ρ F H d Q o e1 q => ?_⟩
  obtain ⟨z, e2, e3⟩ := R.of_bind e1
  refine he.de W F0 σ ρ F H z _ o e2 fun v F1 H1 o1 s1 r1 => ?_
  cases z <;> first | (cases e3; done) | skip
  rename_i z
  cases e3
  cases hl : t.lookup z with
  | none => exact ⟨z, none, rp_str.mp r1, rfl, C.no z hl, q _ F1 H1 o1 s1 (rp_bl.mpr (by rw [hl]; rfl))⟩
  | some d =>
    obtain ⟨u, v', h1, h2, h3⟩ := C.at_ z d hl
    exact ⟨z, some u, rp_str.mp r1, rfl, h1, q _ F1 H1 o1 s1 (rp_bl.mpr (by rw [hl]; rfl))⟩
theorem pd_atC (C : CDict X.K X.w a t) (hm : X.mg x = some (.ref a)) (he : PD X e te f) (hg : Gl X x := by rfl) (hdb : (x == ("__debug__" : Str)) = false := by decide) (hs : PlainIx e := by exact fun _ _ => rfl) :
    PD X (.Subscript (.Name x p) e pos) (tOp (rIxD X.K X.w) (tC (.ref a)) te) (fun ρ => f ρ >>= cAt t) := by
  refine ⟨pe_ix ix_kdict (pe_glob (v := .ref a) hg hm rfl hdb) he.pe hs, fun W F0 σ ρ F H d Q o e1 q => ?_⟩
  obtain ⟨z, e2, e3⟩ := R.of_bind e1
  refine he.de W F0 σ ρ F H z _ o e2 fun v F1 H1 o1 s1 r1 => ?_
  cases z <;> first | (cases e3; done) | skip
  rename_i z
  have e4 : (match t.lookup z with
    | some d => (.ok d : R D)
    | none => .bad) = .ok d := e3
  split at e4
  · rename_i d' hl
    cases e4
    obtain ⟨u, v', h1, h2, h3⟩ := C.at_ _ _ hl
    obtain ⟨es, n, kd⟩ := C.kd
    exact ⟨a, _, v', rfl, rp_str.mp r1, ⟨es, n, u, kd.at_, kd.lit, h1, h2⟩, q _ F1 H1 o1 s1 (h3 F1)⟩
  · cases e4
end

/-! ### a written dict's display with text keys, and get -/
inductive PPsD (X : Cx) (pos : Pos) : List (Option Expr) → List Expr → List (TE × TE) → List Str → List (En → R D) → Prop where
  | nil : PPsD X pos [] [] [] [] []
  | cons {k v : Expr} {ks : List (Option Expr)} {vs : List Expr} {z : Str} {tv : TE} {fv : En → R D} {trs : List (TE × TE)} {zs : List Str} {fs : List (En → R D)} (hk : PE X k (tC (.str z))) (hv : PD X v tv fv) (hr : PPsD X pos ks vs trs zs fs) :
      PPsD X pos (some k :: ks) (v :: vs) ((tC (.str z), tv) :: trs) (z :: zs) (fv :: fs)
theorem PPsD.pp {X : Cx} {pos : Pos} : ∀ {ks : List (Option Expr)} {vs : List Expr} {trs : List (TE × TE)} {zs : List Str} {fs : List (En → R D)}, PPsD X pos ks vs trs zs fs → PPs X pos ks vs trs
  | _, _, _, _, _, .nil => pps_nil
  | _, _, _, _, _, .cons hk hv hr => pps_cons hk hv.pe hr.pp
def eAll : List (En → R D) → En → R (List D)
  | [], _ => .ok []
  | f :: fs, ρ => f ρ >>= fun d => eAll fs ρ >>= fun ds => .ok (d :: ds)
def eDisp (zs : List Str) (fs : List (En → R D)) : En → R D := fun ρ => eAll fs ρ >>= fun ds => .ok (.dic (zs.map Sum.inr) ds)
theorem eAll_length : ∀ {fs : List (En → R D)} {ρ : En} {ds : List D}, eAll fs ρ = .ok ds → ds.length = fs.length
  | [], ρ, ds, h => by cases h; rfl
  | f :: fs, ρ, ds, h => by
    obtain ⟨d, h1, h2⟩ := R.of_bind h
    obtain ⟨es, h3, h4⟩ := R.of_bind h2
    cases h4
    simp [eAll_length h3]
section
variable {X : Cx} {pos : Pos}
theorem PPsD.lens {ks : List (Option Expr)} {vs : List Expr} {trs : List (TE × TE)} {zs : List Str} {fs : List (En → R D)} (h : PPsD X pos ks vs trs zs fs) : zs.length = fs.length := by
  induction h with
  | nil => rfl
  | cons _ _ _ ih => simp [ih]
theorem de_pairs {ks : List (Option Expr)} {vs : List Expr} {trs : List (TE × TE)} {zs : List Str} {fs : List (En → R D)} (h : PPsD X pos ks vs trs zs fs) : ∀ (W F0 : Hp) (σ : L2.St) (ρ : En) (F H : Hp) (ds : List D) (Q : List (V × V) → Hp → Prop), Ok X.K W F0 σ ρ F H → eAll fs ρ = .ok ds →
    (∀ xs F' H', Ok X.K W F0 σ ρ F' H' → Same F F' → Rps X.K F' xs ds → Q ((zs.map V.str).zip xs) H') → tPairs trs σ H Q := by
  induction h with
  | nil =>
    intro W F0 σ ρ F H ds Q o e q
    cases e
    exact q [] F H o (Same.refl _) .nil
  | @cons k v ks vs z tv fv trs zs fs hk hv hr ih =>
    intro W F0 σ ρ F H ds Q o e q
    obtain ⟨d, h1, h2⟩ := R.of_bind e
    obtain ⟨es, h3, h4⟩ := R.of_bind h2
    cases h4
    show tC (.str z) σ H _
    refine hv.de W F0 σ ρ F H d _ o h1 fun x F1 H1 o1 s1 r1 => ?_
    refine ih W F0 σ ρ F1 H1 es _ o1 h3 fun xs F2 H2 o2 s2 r2 => ?_
    exact q (x :: xs) F2 H2 o2 (s1.trans s2) (.cons (r1.mono s2) r2)
theorem mergeK_new : ∀ (more kvs : List (Key × V)), ((kvs ++ more).map (·.1)).Nodup → mergeK kvs more = kvs ++ more
  | [], kvs, _ => by simp [mergeK]
  | kv :: more, kvs, h => by
    have h1 : valV kvs kv.1 = none := by
      cases e : valV kvs kv.1 with
      | none => rfl
      | some v =>
        exfalso
        have hm : kv.1 ∈ kvs.map (·.1) := by
          have := valV_any kv.1 kvs
          rw [e] at this
          obtain ⟨p, hp, hq⟩ := List.any_eq_true.mp (by rw [this]; rfl)
          exact List.mem_map.mpr ⟨p, hp, of_decide_eq_true hq⟩
        rw [List.map_append, List.map_cons] at h
        exact (List.nodup_append.mp h).2.2 _ hm _ List.mem_cons_self rfl
    show mergeK (putK kvs kv.1 kv.2) more = kvs ++ kv :: more
    rw [putK_new _ h1, mergeK_new more (kvs ++ [kv]) (by simpa using h)]
    simp
theorem zip_map_pair (zs : List Str) (xs : List V) : ∀ (_ : zs.length = xs.length), (zs.map V.str).zip xs = ((zs.map (Sum.inr : Str → Key)).zip xs).map fun kv => (kV kv.1, kv.2) := by
  induction zs generalizing xs with
  | nil => intro _; rfl
  | cons z zs ih =>
    intro h
    cases xs with
    | nil => cases h
    | cons x xs =>
      simp only [List.map_cons, List.zip_cons_cons]
      rw [ih xs (by simpa using h)]
      rfl
theorem pd_disp {keys : List (Option Expr)} {values : List Expr} {trs : List (TE × TE)} {zs : List Str} {fs : List (En → R D)} (h : PPsD X pos keys values trs zs fs) (hall : keys.all (·.isSome) = true := by rfl) (hl : keys.length = values.length := by rfl) (h0 : keys ≠ [] := by exact fun z => by cases z) (h15 : keys.length ≤ 15 := by decide)
    (hz : zs.Nodup := by decide +kernel) (h15' : zs.length ≤ 15 := by decide) : PD X (.Dict keys values pos) (tDisp trs) (eDisp zs fs) := by
  refine ⟨pe_disp h.pp hall hl h0 h15, fun W F0 σ ρ F H d Q o e q => ?_⟩
  obtain ⟨ds, e1, e2⟩ := R.of_bind e
  cases e2
  intro p hp
  have fp := (o.free hp).1
  have wp := (o.free hp).2
  have ap := o.apart hp
  have o1 := (o.pushH (.dK []) hp).guard (u := .dK []) upd_same fp ap
  refine de_pairs h _ _ σ ρ F _ ds _ o1.self e1 fun xs F2 H2 o2 s2 r2 => ?_
  have lx : zs.length = xs.length := by rw [r2.length, eAll_length e1]; exact h.lens
  have hp2 : H2 p = some (.dK []) := o2.wld p _ upd_same
  have fp2 : F2 p = none := o2.new p (.dK []) (fun _ z => nomatch z) upd_same fp
  have nd : (((zs.map (Sum.inr : Str → Key)).zip xs).map (·.1)).Nodup := by
    rw [List.map_fst_zip (by simp [lx])]
    exact List.Pairwise.map _ (fun a b hab => fun e => hab (Sum.inr.inj e)) hz
  refine ⟨hp2, (zs.map (Sum.inr : Str → Key)).zip xs, zip_map_pair zs xs lx, by rw [List.length_zip]; simp; omega, ?_⟩
  rw [mergeK_new _ [] (by simpa using nd)]
  have o3 := (o2.unguard wp).rebase o.toOkB
  have o4 := o3.alter (u := .dK ([] ++ (zs.map (Sum.inr : Str → Key)).zip xs)) fp2 wp ap
  have s4 : Same F2 (upd F2 p (.dK ((zs.map (Sum.inr : Str → Key)).zip xs))) := same_upd fp2
  exact q _ _ _ (o4.freezeAt upd_same fp2 wp ap) (s2.trans s4) (rp_dic.mpr ⟨p, xs, rfl, upd_same, by simp [lx], r2.mono s4⟩)
end
def look (ks : List Key) (ds : List D) (k : Key) : Option D := ((ks.zip ds).find? fun kv => decide (kv.1 = k)).map (·.2)
def asKey : D → R Key
  | .int i => .ok (.inl i)
  | .str z => .ok (.inr z)
  | _ => .bad
theorem look_ok {K : PySem.W.Frag} {F : Hp} (k : Key) : ∀ {ks : List Key} {xs : List V} {ds : List D}, ks.length = xs.length → Rps K F xs ds → (∀ d, look ks ds k = some d → ∃ v, valV (ks.zip xs) k = some v ∧ Rp K F v d) ∧ (look ks ds k = none → valV (ks.zip xs) k = none)
  | [], xs, ds, _, _ => ⟨fun d h => by simp [look] at h, fun _ => by simp [valV]⟩
  | k' :: ks, [], ds, h, _ => by simp at h
  | k' :: ks, x :: xs, [], h, r => by have := r.length; simp at this
  | k' :: ks, x :: xs, d :: ds, h, r => by
    obtain ⟨y, ys, e, r1, r2⟩ := r.of_cons
    cases e
    have ih := look_ok (F := F) k (ks := ks) (xs := xs) (ds := ds) (by simpa using h) r2
    by_cases hk : k' = k
    · subst hk
      refine ⟨fun d' hd => ?_, fun hn => ?_⟩
      · simp [look] at hd
        subst hd
        exact ⟨x, valV_pos rfl, r1⟩
      · simp [look] at hn
    · have e1 : look (k' :: ks) (d :: ds) k = look ks ds k := by simp [look, List.find?_cons, hk]
      rw [e1, List.zip_cons_cons, valV_neg (p := (k', x)) hk]
      exact ih
/-- d.get(k, x) -/
def dGet (d k x : D) : R D := match d with
  | .dic ks ds => asKey k >>= fun k => .ok ((look ks ds k).getD x)
  | _ => .bad
theorem asKey_ok {K : PySem.W.Frag} {F : Hp} {v : V} {d : D} {k : Key} (r : Rp K F v d) (h : asKey d = .ok k) : v = kV k := by
  cases d <;> first | (cases h; done) | skip
  · cases h; exact rp_int.mp r
  · cases h; exact rp_str.mp r
section
variable {X : Cx} {o e f : Expr} {td ty tx : TE} {fd fk fx : En → R D} {apos cpos : Pos}
theorem pd_dget2 (hu : X.A.units + 1 < cLine) (ho : PD X o td fd) (he : PD X e ty fk) (hf : PD X f tx fx) (m : M2 X o "get" apos e f cpos := by exact ⟨rfl, rfl, rfl, rfl⟩) :
    PD X (.Call (.Attribute o "get" apos) [e, f] [] cpos) (tDGet2 td ty tx) (fun ρ => fd ρ >>= fun d => fk ρ >>= fun k => fx ρ >>= fun x => dGet d k x) := by
  refine ⟨pe_dget2 hu ho.pe he.pe hf.pe m, fun W F0 σ ρ F H d Q o' e1 q => ?_⟩
  obtain ⟨dd, e2, e3⟩ := R.of_bind e1
  obtain ⟨dk, e4, e5⟩ := R.of_bind e3
  obtain ⟨dx, e6, e7⟩ := R.of_bind e5
  refine ho.de W F0 σ ρ F H dd _ o' e2 fun v F1 H1 o1 s1 r1 => ?_
  cases dd <;> first | (cases e7; done) | skip
  obtain ⟨k, e8, e9⟩ := R.of_bind e7
  cases e9
  rename_i ks ds
  obtain ⟨a, xs, rfl, ha, hl, r⟩ := rp_dic.mp r1
  refine ⟨a, rfl, .inl ⟨_, .inl (o1.sub _ _ ha)⟩, ?_⟩
  refine he.de W F0 σ ρ F1 H1 dk _ o1 e4 fun w F2 H2 o2 s2 r2 => ?_
  refine hf.de W F0 σ ρ F2 H2 dx _ o2 e6 fun x F3 H3 o3 s3 r3 => ?_
  have hk := asKey_ok r2 e8
  subst hk
  have ha3 : H3 a = some (.dK (ks.zip xs)) := o3.sub _ _ (s3 _ _ (s2 _ _ ha))
  refine ⟨valV (ks.zip xs) k, DGet.k ha3, ?_⟩
  obtain ⟨g1, g2⟩ := look_ok k hl ((r.mono s2).mono s3)
  refine q _ F3 H3 o3 ((s1.trans s2).trans s3) ?_
  cases hlk : look ks ds k with
  | none => rw [g2 hlk]; exact r3
  | some d =>
    obtain ⟨v, hv, rv⟩ := g1 d hlk
    rw [hv]; exact rv
end
end DD

namespace DD
open PySem PySem.Spec PyProof.Rows L2
variable [Iota]

/-! ### a list, a tuple or a text, walked -/
def SK.It (K : PySem.W.Frag) : SK → L2.It
  | .l a => Itl K a
  | .t a => Itt K a
  | .s z => Its z
def iAny (K : PySem.W.Frag) (tl : TE) : TI := fun σ H R => tl σ H fun x H1 => ∃ (k : SK) (xs : List V), k.Of x ∧ k.Has K H1 xs ∧ R (k.It K) H1
section
variable {X : Cx} {tg l : Expr} {tl : TE} {f : En → R D}
theorem pi_any (hl : PE X l tl) : PI X tg l (iAny X.K tl) := by
  refine ⟨fun pins s σ H R I h => ?_⟩
  refine thn (hl.run pins s σ H _ I h) fun v s1 ⟨x, H1, I1, r1, q1⟩ => ?_
  obtain ⟨k, xs, ok, hh, q⟩ := q1
  cases k with
  | l a =>
    have e : x = .ref a := ok
    subst e
    cases r1
    obtain ⟨its, rv, p, hz⟩ := I1.list hh
    refine wpAny_pyIter_list p.isList ?_
    refine ⟨s1.heap.objs.size, [s1.heap.objs.size], _, _, H1, rfl, I1.kept (t' := s1.toks) fun b o e => Heap.get?_push_of_some _ e, turn_list a _, ⟨_, Heap.get?_push_size _ rfl, rfl, rfl⟩, fun b hb => ?_, q⟩
    have e : b = s1.heap.objs.size := by simpa using hb
    subst e
    exact I1.fpOk (Nat.le_refl _) (I1.hok.fresh (Nat.le_refl _))
  | t a =>
    have e : x = .ref a := ok
    subst e
    cases r1
    obtain ⟨its, rv, p, hz⟩ := I1.tuple hh
    refine wpAny_pyIter_tuple (show s1.heap.IsTuple a its.toArray from p) ?_
    refine ⟨s1.heap.objs.size, [s1.heap.objs.size], _, _, H1, rfl, I1.kept (t' := s1.toks) fun b o e => Heap.get?_push_of_some _ e, turn_tuple a _, ⟨_, Heap.get?_push_size _ rfl, rfl, rfl⟩, fun b hb => ?_, q⟩
    have e : b = s1.heap.objs.size := by simpa using hb
    subst e
    exact I1.fpOk (Nat.le_refl _) (I1.hok.fresh (Nat.le_refl _))
  | s z =>
    have e : x = .str z := ok
    subst e
    obtain ⟨t, rfl⟩ := r1
    cases ha : z.cps.all (· < 128)
    · exact wpAny_pyIter_wide ha (pi_one (tk := s1.toks) I1 _ (turn_str _ z t "str_iterator" (.inr rfl)) ⟨_, Heap.get?_push_size _ rfl, rfl, rfl⟩ q)
    · exact wpAny_pyIter_ascii ha (pi_one (tk := s1.toks) I1 _ (turn_str _ z t "str_ascii_iterator" (.inl rfl)) ⟨_, Heap.get?_push_size _ rfl, rfl, rfl⟩ q)
/-- whatever sequence it is -/
theorem pid_any (h : PD X l tl f) : PID X tg l (iAny X.K tl) (fun ρ => f ρ >>= items) := by
  refine ⟨pi_any h.pe, fun W F0 σ ρ F H ds Rk o e q => ?_⟩
  obtain ⟨d, e1, e2⟩ := R.of_bind e
  refine h.de W F0 σ ρ F H d _ o e1 fun v F1 H1 o1 s1 r1 => ?_
  cases d <;> first | (cases e2; done) | skip
  · cases e2
    rename_i z
    refine ⟨.s z, _, rp_str.mp r1, rfl, q _ F1 H1 o1 s1 fun F2 H2 s2 s3 i => ⟨fun hi => ?_, fun d hd => ?_⟩⟩
    · show z.cps.size ≤ i
      rw [hi]; simp [chars]
    · have hi : i < z.cps.size := by
        have := (List.getElem?_eq_some_iff.mp hd).1
        simpa [chars] using this
      refine ⟨hi, fun x H3 hy => .inl ⟨hy.1, ?_⟩⟩
      obtain ⟨c, hc, rfl⟩ := hy.2
      unfold chars at hd
      rw [List.getElem?_map, Array.getElem?_toList, hc] at hd
      cases hd
      exact rp_str.mpr rfl
  · cases e2
    obtain ⟨a, xs, rfl, ha, r⟩ := rp_tup.mp r1
    refine ⟨.t a, xs, rfl, Same.seqT o1.sub ha, q _ F1 H1 o1 s1 fun F2 H2 s2 s3 i => ⟨fun hi => ?_, fun d hd => ?_⟩⟩
    · exact ⟨xs, Same.seqT (s2.trans s3) ha, by rw [r.length, hi]; exact Nat.le_refl _⟩
    · obtain ⟨v, hv, rv⟩ := r.get hd
      refine ⟨⟨xs, v, Same.seqT (s2.trans s3) ha, hv⟩, fun x H3 hy => .inl ⟨hy.1, ?_⟩⟩
      have e := hy.2 xs (Same.seqT (s2.trans s3) ha)
      rw [hv] at e
      cases e
      exact rv.mono s2
  · cases e2
    obtain ⟨a, xs, rfl, ha, r⟩ := rp_lst.mp r1
    refine ⟨.l a, xs, rfl, SqL.of (o1.sub _ _ ha), q _ F1 H1 o1 s1 fun F2 H2 s2 s3 i => ⟨fun hi => ?_, fun d hd => ?_⟩⟩
    · exact ⟨xs, SqL.of (s3 _ _ (s2 _ _ ha)), by rw [r.length, hi]; exact Nat.le_refl _⟩
    · obtain ⟨v, hv, rv⟩ := r.get hd
      refine ⟨⟨xs, v, SqL.of (s3 _ _ (s2 _ _ ha)), hv⟩, fun x H3 hy => .inl ⟨hy.1, ?_⟩⟩
      have e := hy.2 xs (SqL.of (s3 _ _ (s2 _ _ ha)))
      rw [hv] at e
      cases e
      exact rv.mono s2
  · cases e2
    obtain ⟨a, xs, rfl, ha, r⟩ := rp_rol.mp r1
    refine ⟨.l a, xs, rfl, o1.sub.seq ha, q _ F1 H1 o1 s1 fun F2 H2 s2 s3 i => ⟨fun hi => ?_, fun d hd => ?_⟩⟩
    · exact ⟨xs, s3.seq (s2.seq ha), by rw [r.length, hi]; exact Nat.le_refl _⟩
    · obtain ⟨v, hv, rv⟩ := r.get hd
      refine ⟨⟨xs, v, s3.seq (s2.seq ha), hv⟩, fun x H3 hy => .inl ⟨hy.1, ?_⟩⟩
      have e := hy.2 xs (s3.seq (s2.seq ha))
      rw [hv] at e
      cases e
      exact rv.mono s2
  · cases e2
    obtain ⟨a, xs, rfl, ha, r⟩ := rp_ktup.mp r1
    refine ⟨.t a, xs, rfl, Same.kseqT o1.sub ha, q _ F1 H1 o1 s1 fun F2 H2 s2 s3 i => ⟨fun hi => ?_, fun d hd => ?_⟩⟩
    · exact ⟨xs, Same.kseqT (s2.trans s3) ha, by rw [r.length, hi]; exact Nat.le_refl _⟩
    · obtain ⟨v, hv, rv⟩ := r.get hd
      refine ⟨⟨xs, v, Same.kseqT (s2.trans s3) ha, hv⟩, fun x H3 hy => .inl ⟨hy.1, ?_⟩⟩
      have e := hy.2 xs (Same.kseqT (s2.trans s3) ha)
      rw [hv] at e
      cases e
      exact rv.mono s2
end
/-! a dict of the module, asked -/
def rInKd (K : PySem.W.Frag) (a : Addr) : R2 := fun x y H Q => ∃ (z : Str) (r : Option Value), x = .str z ∧ y = .ref a ∧ PySem.W.nsIn K a z = some r ∧ Q (.bl r.isSome) H
section
variable {X : Cx} {e : Expr} {te : TE} {f : En → R D} {t : List (Str × D)} {a : Addr} {x : Str} {p pos : Pos}
theorem op_inKd {d : Addr} {es : Array DictEntry} {n : Nat} (D : KDict X.K X.w d es n) : OpR X (compareOp .In) (rInKd X.K d) := op_in_kd D
theorem ptd_inK (C : CDict X.K X.w a t) (hm : X.mg x = some (.ref a)) (he : PD X e te f) (hg : Gl X x := by rfl) (hdb : (x == ("__debug__" : Str)) = false := by decide) (hb : behindInMarks .In (.Name x p) = false := by rfl) :
    PTD X (.Compare e [.In] [.Name x p] pos) (tTest (tOp (rInKd X.K a) te (tC (.ref a)))) (tst (fun ρ => f ρ >>= cIn t)) := by
  obtain ⟨es, n, kd⟩ := C.kd
  refine ⟨pt_cmpR (op_inKd kd) he.pe (pe_glob (v := .ref a) hg hm rfl hdb) hb, dt_of fun W F0 σ ρ F H d Q o e1 q => ?_⟩
  obtain ⟨z, e2, e3⟩ := R.of_bind e1
  refine he.de W F0 σ ρ F H z _ o e2 fun v F1 H1 o1 s1 r1 => ?_
  cases z <;> first | (cases e3; done) | skip
  rename_i z
  cases e3
  cases hl : t.lookup z with
  | none => exact ⟨z, none, rp_str.mp r1, rfl, C.no z hl, q _ F1 H1 o1 s1 (rp_bl.mpr (by rw [hl]; rfl))⟩
  | some d =>
    obtain ⟨u, v', h1, h2, h3⟩ := C.at_ z d hl
    exact ⟨z, some u, rp_str.mp r1, rfl, h1, q _ F1 H1 o1 s1 (rp_bl.mpr (by rw [hl]; rfl))⟩
end
/-! -a -/
def dNeg : D → R D
  | .int i => .ok (.int (-i))
  | _ => .bad
theorem pd_neg {X : Cx} {a : Expr} {ta : TE} {fa : En → R D} {pos : Pos} (ha : PD X a ta fa) : PD X (.UnaryOp .USub a pos) (tUn (rU fun i => .int (-i)) ta) (fun ρ => fa ρ >>= dNeg) := by
  refine ⟨pe_un un_neg ha.pe, fun W F0 σ ρ F H d Q o e q => ?_⟩
  obtain ⟨x, e1, e2⟩ := R.of_bind e
  refine ha.de W F0 σ ρ F H x _ o e1 fun v F1 H1 o1 s1 r1 => ?_
  cases x <;> first | (cases e2; done) | skip
  cases e2
  exact ⟨_, rp_int.mp r1, q _ F1 H1 o1 s1 (rp_int.mpr rfl)⟩

/-! ### defs by name -/
/-- a def as the top has laid it -/
def At (K : PySem.W.Frag) (mg : Str → Option Value) (x : Str) (st : Stmt) (ps : List Str) : Prop := ∃ f fd, L2.Fun K x x st f fd ∧ mg x = some (.ref f) ∧ Binds K fd ps []
/-- .. and what it answers -/
def Has (P : Program) (w : World) (K : PySem.W.Frag) (mg : Str → Option Value) (base : Heap) (k : Nat) (x : Str) (ps : List Str) (m : List D → R D) : Prop :=
  ∃ f fd, FnOk P w K mg base CX0 k f fd ps (spD K m) ∧ mg x = some (.ref f) ∧ PySem.W.keepIn K (.ref f) = true ∧ Binds K fd ps []
section
variable {P : Program} {w : World} {K : PySem.W.Frag} {mg : Str → Option Value} {base : Heap}
theorem At.has {x : Str} {st : Stmt} {N ps : List Str} {k : Nat} {g : En → R Out} (A : At K mg x st ps) (S : FnScope N ps (defScope st))
    (hbody : ∀ (f : Addr) (cdv : Value) (A : Around) (outer : List Env) (s : Shared) (H : Hp) (E : XK), Room k (A.deeper (envOfC x (defScope st) s.heap.objs.size f cdv)) →
      ∃ t, PSsD (cxOf CX0 P w K mg base N x (defScope st) f cdv A outer s H E).nox (defBody st) t g) : Has P w K mg base (k + 1) x ps (runD ps.length (N.length - ps.length) g) := by
  obtain ⟨f, fd, F, hm, b⟩ := A
  exact ⟨f, fd, Fun.okD F S fun cdv A outer s H E hr => hbody f cdv A outer s H E hr, hm, F.kp, b⟩
theorem Has.mono {x : Str} {ps : List Str} {j k : Nat} {m : List D → R D} (h : Has P w K mg base j x ps m) (hk : j ≤ k) : Has P w K mg base k x ps m := by
  obtain ⟨f, fd, G, r⟩ := h
  exact ⟨f, fd, G.mono hk, r⟩
/-- nothing is asked -/
theorem At.none {x : Str} {st : Stmt} {ps : List Str} {k : Nat} (A : At K mg x st ps) : Has P w K mg base k x ps (fun _ => .bad) := by
  obtain ⟨f, fd, F, hm, b⟩ := A
  have no : ∀ vs H Q E, ¬ spD K (fun _ => .bad) vs H Q E := fun vs H Q E h => by
    obtain ⟨_, _, _, _, _, e, _⟩ := h
    cases e
  exact ⟨f, fd, ⟨fun vs H Q E h => absurd h (no vs H Q E), fun A outer s H args us vs Q E _ _ _ _ h => absurd h (no vs H Q E)⟩, hm, F.kp, b⟩
end
section
variable {X : Cx} {j k : Nat} {ps : List Str} {m : List D → R D} {x : Str} {p pos : Pos} {e : Expr} {es : List Expr} {t : TA} {fa : En → R (List D)}
theorem pd_callH (h : Has X.prog X.w X.K X.mg X.base j x ps m) (hr : Room k X.A) (ha : PAD X (e :: es) t fa) (hj : j ≤ k := by decide) (hg : Gl X x := by rfl)
    (hdb : (x == ("__debug__" : Str)) = false := by decide) (he : starEach (e :: es) X.env = (false, eval e X.env) :: starEach es X.env := by rfl) (hpl : (backTo pos (starEach es X.env)).any (·.1) = false := by rfl) :
    PD X (.Call (.Name x p) (e :: es) [] pos) (tCall (spD X.K m) [] E0 t) (eCall m fa) := by
  obtain ⟨f, fd, G, hm, hk, hb⟩ := h
  exact pd_call G (hr.mono hj) hm hk hb ha hg hdb he hpl
end
end DD
namespace DD
open PySem PySem.Spec PyProof.Rows L2
variable [Iota]
/-! ### a written dict's entries -/
def Ents (P : Params) : List DictEntry → List (Str × Value) → Prop
  | [], [] => True
  | e :: r, (x, v) :: s => (∃ t, e.key = .str x t) ∧ e.hash = PyData.keyHash P x ∧ e.val = v ∧ Ents P r s
  | _, _ => False
def EntsD : List (Str × D) → List (Str × Value) → Prop
  | [], [] => True
  | (x, d) :: r, (y, u) :: s => x = y ∧ (∃ v, RelV v u ∧ ∀ (K : PySem.W.Frag) (F : Hp), Rp K F v d) ∧ EntsD r s
  | _, _ => False
theorem Ents.lit {P : Params} : ∀ {es : List DictEntry} {tv : List (Str × Value)}, Ents P es tv → PySem.W.KeysLit P es
  | [], [], _ => trivial
  | [], _ :: _, h => h.elim
  | _ :: _, [], h => h.elim
  | e :: r, (x, v) :: s, ⟨⟨t, hk⟩, hh, _, hr⟩ => ⟨⟨x, t, hk, hh⟩, hr.lit⟩
theorem Ents.find {P : Params} (z : Str) : ∀ {es : List DictEntry} {tv : List (Str × Value)}, Ents P es tv → (es.find? fun e => e.key.isStr z).map (·.val) = tv.lookup z ∧ es.any (·.refKey) = false
  | [], [], _ => ⟨rfl, rfl⟩
  | [], _ :: _, h => h.elim
  | _ :: _, [], h => h.elim
  | e :: r, (x, v) :: s, ⟨⟨t, hk⟩, hh, hv, hr⟩ => by
    obtain ⟨h1, h2⟩ := hr.find z
    have ek : e.key.isStr z = (x == z) := by rw [hk] <;> rfl
    have er : e.refKey = false := by unfold DictEntry.refKey; rw [hk] <;> rfl
    refine ⟨?_, by rw [List.any_cons, er, h2]; rfl⟩
    rw [List.find?_cons, ek]
    by_cases c : x = z
    · subst c; simp [hv]
    · have c1 : (x == z) = false := by simpa using c
      have c2 : (z == x) = false := by simpa using fun e => c e.symm
      rw [c1, List.lookup_cons, c2]
      exact h1
theorem nsIn_ents {K : PySem.W.Frag} {P : Params} {a : Addr} {es : Array DictEntry} {n : Nat} {tv : List (Str × Value)} (h : K.lookup a = some ⟨.type "dict", none, .dict es n, #[]⟩) (e : Ents P es.toList tv) (z : Str) : PySem.W.nsIn K a z = some (tv.lookup z) := by
  obtain ⟨h1, h2⟩ := e.find z
  unfold PySem.W.nsIn
  rw [h]
  show (match es.toList.find? (·.key.isStr z) with
    | some e => some (some e.val)
    | none => if es.toList.any (·.refKey) then none else some none) = _
  rw [← h1]
  cases es.toList.find? fun e => e.key.isStr z with
  | some e => rfl
  | none => rw [h2]; rfl
theorem entsD_at : ∀ {t : List (Str × D)} {tv : List (Str × Value)}, EntsD t tv → ∀ z, (∀ d, t.lookup z = some d → ∃ u v, tv.lookup z = some u ∧ RelV v u ∧ ∀ (K : PySem.W.Frag) (F : Hp), Rp K F v d) ∧ (t.lookup z = none → tv.lookup z = none)
  | [], [], _, z => ⟨fun d h => (by cases h), fun _ => rfl⟩
  | [], _ :: _, h, _ => h.elim
  | _ :: _, [], h, _ => h.elim
  | (x, d) :: r, (y, u) :: s, ⟨e, ⟨v, hv, hd⟩, hr⟩, z => by
    subst e
    have ih := entsD_at hr z
    rw [List.lookup_cons, List.lookup_cons]
    cases c : z == x with
    | true =>
      refine ⟨fun d' h => ?_, fun h => ?_⟩
      · cases h
        exact ⟨u, v, rfl, hv, hd⟩
      · cases h
    | false => exact ih
theorem cdict_of {K : PySem.W.Frag} {w : World} {a : Addr} {es : Array DictEntry} {n : Nat} {t : List (Str × D)} {tv : List (Str × Value)} (h : K.lookup a = some ⟨.type "dict", none, .dict es n, #[]⟩) (lo : (a == sysModules) = false) (e : Ents w.params es.toList tv) (d : EntsD t tv) : CDict K w a t :=
  ⟨⟨es, n, h, e.lit, lo⟩, fun z x hx => by
    obtain ⟨u, v, h1, h2, h3⟩ := (entsD_at d z).1 x hx
    exact ⟨u, v, by rw [nsIn_ents h e, h1], h2, h3 K⟩, fun z hz => by rw [nsIn_ents h e, (entsD_at d z).2 hz]⟩
theorem rps_of_ints {K : PySem.W.Frag} {F : Hp} : ∀ ns : List Int, Rps K F (ns.map V.int) (ns.map D.int)
  | [] => .nil
  | n :: ns => .cons (rp_int.mpr rfl) (rps_of_ints ns)
end DD

/-! EVALUATION: how the plain functions reckon -/
namespace DD
open PySem PySem.Spec PyProof.Rows L2
variable [Iota]

@[simp] theorem R.ite_bind {α β : Type} {c : Prop} [Decidable c] (x y : R α) (f : α → R β) : ((if c then x else y) >>= f) = if c then x >>= f else y >>= f := by split <;> rfl
theorem R.bind_asc {α β γ : Type} (x : R α) (f : α → R β) (g : β → R γ) : ((x >>= f) >>= g) = x >>= fun a => f a >>= g := by cases x <;> rfl
/-- R.ok_bind, but not by unfolding -/
theorem R.okb {α β : Type} (a : α) (f : α → R β) : (R.ok a >>= f) = f a := Eq.trans (b := f a) rfl (Eq.refl _)
@[simp] theorem guardR_t : guardR true = .ok () := rfl
@[simp] theorem guardR_f : guardR false = .bad := rfl
theorem guardR_of {b : Bool} (h : b = true) : guardR b = .ok () := by rw [h]; rfl
theorem small_of {n : Nat} (h : n ≤ 16777216) : small n = true := decide_eq_true h

def seqK (g : En → R Out) : Out → R Out
  | .nx ρ => g ρ
  | o => .ok o
@[simp] theorem seqK_nx (g : En → R Out) (ρ : En) : seqK g (.nx ρ) = g ρ := rfl
@[simp] theorem seqK_rt (g : En → R Out) (d : D) : seqK g (.rt d) = .ok (.rt d) := rfl
@[simp] theorem seqK_bk (g : En → R Out) (ρ : En) : seqK g (.bk ρ) = .ok (.bk ρ) := rfl
@[simp] theorem seqK_ct (g : En → R Out) (ρ : En) : seqK g (.ct ρ) = .ok (.ct ρ) := rfl
@[simp] theorem sSeq_ap (f g : En → R Out) (ρ : En) : sSeq f g ρ = f ρ >>= seqK g := by
  unfold sSeq
  cases f ρ with
  | ok o => cases o <;> rfl
  | err x => rfl
  | bad => rfl
@[simp] theorem sNext_ap (ρ : En) : sNext ρ = .ok (.nx ρ) := rfl
@[simp] theorem sRet_ap (f : En → R D) (ρ : En) : sRet f ρ = f ρ >>= fun d => .ok (.rt d) := rfl
@[simp] theorem sIf_ap (c : En → R Bool) (f g : En → R Out) (ρ : En) : sIf c f g ρ = c ρ >>= fun b => if b = true then f ρ else g ρ := rfl
@[simp] theorem sSet_ap (i : Nat) (f : En → R D) (ρ : En) : sSet i f ρ = f ρ >>= fun d => .ok (.nx (ρ.set i (.fz d))) := rfl
@[simp] theorem sSetO_ap (i : Nat) (f : En → R (List D)) (ρ : En) : sSetO i f ρ = f ρ >>= fun ds => .ok (.nx (ρ.set i (.ow ds))) := rfl
@[simp] theorem sFrz_ap (i : Nat) (g : En → R Out) (ρ : En) : sFrz i g ρ = g (frz i ρ) := rfl
@[simp] theorem sApp_ap (i : Nat) (f : En → R D) (ρ : En) : sApp i f ρ = eOwn i ρ >>= fun ds => f ρ >>= fun d => guardR (decide (ds.length < 16777216)) >>= fun _ => .ok (.nx (ρ.set i (.ow (ds ++ [d])))) := rfl
@[simp] theorem sFor_ap (src : En → R (List D)) (tg : D → En → R En) (body : En → R Out) (ρ : En) : sFor src tg body ρ = src ρ >>= fun ds => forR tg body ds ρ := rfl
@[simp] theorem frz_ow0 (ds : List D) (ρ : En) : frz 0 (.ow ds :: ρ) = .fz (.lst ds) :: ρ := rfl
@[simp] theorem frz_s (i : Nat) (s : Sl) (ρ : En) : frz (i + 1) (s :: ρ) = s :: frz i ρ := by
  simp only [frz, List.getElem?_cons_succ, List.set_cons_succ]
  cases h : ρ[i]? with
  | none => rfl
  | some t => cases t <;> rfl
@[simp] theorem eVar_z (d : D) (ρ : En) : eVar 0 (.fz d :: ρ) = .ok d := rfl
@[simp] theorem eVar_s (i : Nat) (s : Sl) (ρ : En) : eVar (i + 1) (s :: ρ) = eVar i ρ := rfl
@[simp] theorem eOwn_z (d : List D) (ρ : En) : eOwn 0 (.ow d :: ρ) = .ok d := rfl
@[simp] theorem eOwn_s (i : Nat) (s : Sl) (ρ : En) : eOwn (i + 1) (s :: ρ) = eOwn i ρ := rfl
@[simp] theorem eC_ap (d : D) (ρ : En) : eC d ρ = .ok d := rfl
@[simp] theorem eBin_ap (g : D → D → R D) (a b : En → R D) (ρ : En) : eBin g a b ρ = a ρ >>= fun x => b ρ >>= fun y => g x y := rfl
@[simp] theorem eCall_ap (g : List D → R D) (f : En → R (List D)) (ρ : En) : eCall g f ρ = f ρ >>= g := rfl
@[simp] theorem eNil_ap (ρ : En) : eNil ρ = .ok [] := rfl
@[simp] theorem eCons_ap (a : En → R D) (r : En → R (List D)) (ρ : En) : eCons a r ρ = a ρ >>= fun x => r ρ >>= fun xs => .ok (x :: xs) := rfl
@[simp] theorem eTup_ap (f : En → R (List D)) (ρ : En) : eTup f ρ = f ρ >>= fun ds => guardR (small ds.length) >>= fun _ => .ok (.tup ds) := rfl
@[simp] theorem eLst_ap (f : En → R (List D)) (ρ : En) : eLst f ρ = f ρ >>= fun ds => guardR (small ds.length) >>= fun _ => .ok ds := rfl
@[simp] theorem toLst_ap (f : En → R (List D)) (ρ : En) : toLst f ρ = f ρ >>= fun ds => .ok (.lst ds) := rfl
@[simp] theorem ofLst_lst (ds : List D) : ofLst (.lst ds) = .ok ds := rfl
@[simp] theorem tst_ap (f : En → R D) (ρ : En) : tst f ρ = f ρ >>= asB := rfl
@[simp] theorem asB_bl (b : Bool) : asB (.bl b) = .ok b := rfl
@[simp] theorem truD_bl (b : Bool) : truD (.bl b) = .ok b := rfl
@[simp] theorem bYes_ap (ρ : En) : bYes ρ = .ok true := rfl
@[simp] theorem bAnd_ap (f g : En → R Bool) (ρ : En) : bAnd f g ρ = f ρ >>= fun b => if b = true then g ρ else .ok false := rfl
@[simp] theorem bOr_ap (f g : En → R Bool) (ρ : En) : bOr f g ρ = f ρ >>= fun b => if b = true then .ok true else g ρ := rfl
@[simp] theorem bNot_ap (f : En → R Bool) (ρ : En) : bNot f ρ = f ρ >>= fun b => .ok (!b) := rfl
@[simp] theorem vAnd_ap (f g : En → R D) (ρ : En) : vAnd f g ρ = f ρ >>= fun d => asB d >>= fun b => if b = true then g ρ else .ok (.bl false) := rfl
@[simp] theorem vOr_ap (f g : En → R D) (ρ : En) : vOr f g ρ = f ρ >>= fun d => asB d >>= fun b => if b = true then .ok (.bl true) else g ρ := rfl
@[simp] theorem eChain_ap (g g' : D → D → R D) (a b c : En → R D) (ρ : En) : eChain g g' a b c ρ = a ρ >>= fun x => b ρ >>= fun y => g x y >>= fun z => asB z >>= fun k => if k = true then c ρ >>= fun w => g' y w else .ok (.bl false) := rfl
@[simp] theorem dAdd_i (i j : Int) : dAdd (.int i) (.int j) = .ok (.int (i + j)) := rfl
theorem dAdd_sg (a b : Str) : dAdd (.str a) (.str b) = guardR (small (a.length + b.length)) >>= fun _ => .ok (.str (a ++ b)) := rfl
theorem dAdd_s {a b : Str} (h : a.length + b.length ≤ 16777216) : dAdd (.str a) (.str b) = .ok (.str (a ++ b)) := by rw [dAdd_sg, small_of h]; rfl
theorem dAdd_l {a b : List D} (h : a.length + b.length ≤ 16777216) : dAdd (.lst a) (.lst b) = .ok (.lst (a ++ b)) := by
  show (guardR (small (a.length + b.length)) >>= fun _ => R.ok (D.lst (a ++ b))) = _
  rw [small_of h]; rfl
theorem dAdd_t {a b : List D} (h : a.length + b.length ≤ 16777216) : dAdd (.tup a) (.tup b) = .ok (.tup (a ++ b)) := by
  show (guardR (small (a.length + b.length)) >>= fun _ => R.ok (D.tup (a ++ b))) = _
  rw [small_of h]; rfl
@[simp] theorem dSub_i (i j : Int) : dSub (.int i) (.int j) = .ok (.int (i - j)) := rfl
theorem dMul_i {i j : Int} (h : (within64 i || within64 j) = true) : dMul (.int i) (.int j) = .ok (.int (i * j)) := by
  show (guardR (within64 i || within64 j) >>= fun _ => R.ok (D.int (i * j))) = _
  rw [h]; rfl
theorem dMod_i {i j : Int} (h : 0 < j) : dMod (.int i) (.int j) = .ok (.int (i % j)) := by
  show (guardR (decide (0 < j)) >>= fun _ => R.ok (D.int (i % j))) = _
  rw [decide_eq_true h]; rfl
theorem dFdiv_i {i j : Int} (h : 0 < j) (h2 : j < 1073741824) : dFdiv (.int i) (.int j) = .ok (.int (i / j)) := by
  show (guardR (decide (0 < j) && decide (j < 1073741824)) >>= fun _ => R.ok (D.int (i / j))) = _
  rw [decide_eq_true h, decide_eq_true h2]; rfl
@[simp] theorem dLt_i (i j : Int) : dLt (.int i) (.int j) = .ok (.bl (decide (i < j))) := rfl
@[simp] theorem dLe_i (i j : Int) : dLe (.int i) (.int j) = .ok (.bl (decide (i ≤ j))) := rfl
@[simp] theorem dGt_i (i j : Int) : dGt (.int i) (.int j) = .ok (.bl (decide (j < i))) := rfl
@[simp] theorem dGe_i (i j : Int) : dGe (.int i) (.int j) = .ok (.bl (decide (j ≤ i))) := rfl
@[simp] theorem dEq_i (i j : Int) : dEq (.int i) (.int j) = .ok (.bl (i == j)) := rfl
@[simp] theorem dEq_s (i j : Str) : dEq (.str i) (.str j) = .ok (.bl (i == j)) := rfl
@[simp] theorem dEq_b (i j : Bool) : dEq (.bl i) (.bl j) = .ok (.bl (i == j)) := rfl
@[simp] theorem dNe_i (i j : Int) : dNe (.int i) (.int j) = .ok (.bl (!(i == j))) := rfl
@[simp] theorem dNe_s (i j : Str) : dNe (.str i) (.str j) = .ok (.bl (!(i == j))) := rfl
@[simp] theorem dIsN_n (x : D) : dIsN x .non = .ok (.bl (isNon x)) := rfl
@[simp] theorem dNotN_n (x : D) : dNotN x .non = .ok (.bl (!isNon x)) := rfl
theorem dLen_s {z : Str} (h : z.length ≤ 16777216) : dLen [.str z] = .ok (.int z.length) := by
  show (guardR (small z.length) >>= fun _ => R.ok (D.int z.length)) = _
  rw [small_of h]; rfl
@[simp] theorem dLen_t (ds : List D) : dLen [.tup ds] = .ok (.int ds.length) := rfl
@[simp] theorem dLen_l (ds : List D) : dLen [.lst ds] = .ok (.int ds.length) := rfl
@[simp] theorem dLen_r (ds : List D) : dLen [.rol ds] = .ok (.int ds.length) := rfl
@[simp] theorem dLenL_ap (ds : List D) : dLenL ds = .ok (.int ds.length) := rfl
@[simp] theorem dAbs_i (i : Int) : dAbs [.int i] = .ok (.int (if i < 0 then -i else i)) := rfl
@[simp] theorem dInt_i (i : Int) : dInt [.int i] = .ok (.int i) := rfl
theorem dInt_s {s : Str} {n : Int} (h : PySem.intText? s = some n) (hl : s.length ≤ 640) : dInt [.str s] = .ok (.int n) := by
  show (match PySem.intText? s with | some n => guardR (decide (s.length ≤ 640)) >>= fun _ => R.ok (D.int n) | none => R.bad) = _
  rw [h, decide_eq_true hl]; rfl
theorem dStr_i {i : Int} (h : bits i = true) : dStr [.int i] = .ok (.str (toString i)) := by
  show (guardR (bits i) >>= fun _ => R.ok (D.str (toString i))) = _
  rw [h]; rfl
@[simp] theorem dStr_s (s : Str) : dStr [.str s] = .ok (.str s) := rfl
@[simp] theorem dTupL_ap (ds : List D) : dTupL ds = .ok (.tup ds) := rfl
theorem dIsi_ap {T : String} {d : D} {b : Bool} (hd : isRef d = false) (h : kitB (tyName d) T = some b) : dIsi T d = .ok (.bl b) := by
  unfold dIsi
  rw [hd, h]; rfl
@[simp] theorem dNeg_i (i : Int) : dNeg (.int i) = .ok (.int (-i)) := rfl
theorem atR_of {α : Type} {xs : List α} {n : Nat} {x : α} (h : xs[n]? = some x) : atR xs (n : Int) = .ok x := by
  have hn : n < xs.length := (List.getElem?_eq_some_iff.mp h).1
  unfold atR atI ixN
  rw [if_pos (by omega), if_pos (by omega)]
  simp [h]
theorem dIx_t {ds : List D} {n : Nat} {x : D} (h : ds[n]? = some x) : dIx (.tup ds) (.int (n : Nat)) = .ok x := atR_of h
theorem dIx_l {ds : List D} {n : Nat} {x : D} (h : ds[n]? = some x) : dIx (.lst ds) (.int (n : Nat)) = .ok x := atR_of h
theorem dIx_r {ds : List D} {n : Nat} {x : D} (h : ds[n]? = some x) : dIx (.rol ds) (.int (n : Nat)) = .ok x := atR_of h
theorem dIx_s {z : Str} {n : Nat} {c : Nat} (hz : z.length ≤ 16777216) (h : z.cps.toList[n]? = some c) : dIx (.str z) (.int (n : Nat)) = .ok (.str ⟨#[c]⟩) := by
  show (guardR (small z.length) >>= fun _ => atR z.cps.toList (n : Int) >>= fun c => R.ok (D.str ⟨#[c]⟩)) = _
  rw [small_of hz, atR_of h]; rfl
@[simp] theorem tgN_ap (i : Nat) (d : D) (ρ : En) : tgN i d ρ = .ok (ρ.set i (.fz d)) := rfl
@[simp] theorem tgsNil_ap (ρ : En) : tgsNil [] ρ = .ok ρ := rfl
@[simp] theorem tgsCons_ap (f : D → En → R En) (g : List D → En → R En) (d : D) (r : List D) (ρ : En) : tgsCons f g (d :: r) ρ = f d ρ >>= fun ρ' => g r ρ' := rfl
@[simp] theorem tgT_ap (n : Nat) (f : List D → En → R En) (ds : List D) (ρ : En) : tgT n f (.tup ds) ρ = guardR (ds.length == n) >>= fun _ => f ds ρ := rfl
@[simp] theorem items_t (ds : List D) : items (.tup ds) = .ok ds := rfl
@[simp] theorem items_l (ds : List D) : items (.lst ds) = .ok ds := rfl
@[simp] theorem items_r (ds : List D) : items (.rol ds) = .ok ds := rfl
@[simp] theorem items_s (z : Str) : items (.str z) = .ok (z.cps.toList.map fun c => D.str ⟨#[c]⟩) := rfl
@[simp] theorem dIn_c (c : Nat) (z : Str) : dIn (.str ⟨#[c]⟩) (.str z) = .ok (.bl (decide (c ∈ z.cps.toList))) := rfl
@[simp] theorem dNotIn_c (c : Nat) (z : Str) : dNotIn (.str ⟨#[c]⟩) (.str z) = .ok (.bl (!decide (c ∈ z.cps.toList))) := rfl
@[simp] theorem noOwn_nil (ρ : En) : noOwn ρ [] = true := rfl
@[simp] theorem oNone_ap (ρ : En) : oNone ρ = .ok none := rfl
@[simp] theorem oSome_ap (f : En → R D) (ρ : En) : oSome f ρ = f ρ >>= asI := rfl
@[simp] theorem asI_i (i : Int) : asI (.int i) = .ok (some i) := rfl
@[simp] theorem eSl_ap (f : En → R D) (l h : En → R (Option Int)) (ρ : En) : eSl f l h ρ = f ρ >>= fun x => l ρ >>= fun lo => h ρ >>= fun hi => dSl x lo hi := rfl
@[simp] theorem eSlL_ap (f : En → R (List D)) (l h : En → R (Option Int)) (ρ : En) : eSlL f l h ρ = f ρ >>= fun x => l ρ >>= fun lo => h ρ >>= fun hi => .ok (cutD x lo hi) := rfl
@[simp] theorem dSl_t (ds : List D) (lo hi : Option Int) : dSl (.tup ds) lo hi = .ok (.tup (cutD ds lo hi)) := rfl
@[simp] theorem dSl_l (ds : List D) (lo hi : Option Int) : dSl (.lst ds) lo hi = .ok (.lst (cutD ds lo hi)) := rfl
@[simp] theorem dSl_r (ds : List D) (lo hi : Option Int) : dSl (.rol ds) lo hi = .ok (.lst (cutD ds lo hi)) := rfl
theorem dSl_s {z : Str} (h : z.length ≤ 16777216) (lo hi : Option Int) : dSl (.str z) lo hi = .ok (.str (cutS z lo hi)) := by
  show (guardR (small z.length) >>= fun _ => R.ok (D.str (cutS z lo hi))) = _
  rw [small_of h]; rfl
theorem dRev_s {z : Str} (h : z.length ≤ 16777216) : dRev (.str z) = .ok (.str (revS z)) := by
  show (guardR (small z.length) >>= fun _ => R.ok (D.str (revS z))) = _
  rw [small_of h]; rfl
theorem dSplit_s {a b : Str} (hb : b.length ≠ 0) (h : a.length ≤ 16000000) : dSplit (.str a) (.str b) = .ok ((Txt.split a b).map D.str) := by
  show (guardR (b.length != 0 && decide (a.length ≤ 16000000)) >>= fun _ => R.ok ((Txt.split a b).map D.str)) = _
  rw [decide_eq_true h, bne_iff_ne.mpr hb]; rfl
@[simp] theorem asStrs_map (l : List Str) : asStrs (l.map D.str) = .ok l := by
  induction l with
  | nil => rfl
  | cons a l ih => simp [asStrs, ih]
theorem asBls_map {α : Type} (f : α → Bool) (l : List α) : asBls (l.map fun a => D.bl (f a)) = .ok (l.map f) := by
  induction l with
  | nil => rfl
  | cons a l ih => simp [asBls, ih]
theorem asInts_map {α : Type} (f : α → Int) (l : List α) : asInts (l.map fun a => D.int (f a)) = .ok (l.map f) := by
  induction l with
  | nil => rfl
  | cons a l ih => simp [asInts, ih]
theorem dAll_map {α : Type} (f : α → Bool) (l : List α) : dAll (l.map fun a => D.bl (f a)) = .ok (.bl (l.all f)) := by
  unfold dAll
  rw [asBls_map]
  show R.ok (D.bl ((l.map f).all id)) = _
  rw [List.all_map]; rfl
theorem dAny_map {α : Type} (f : α → Bool) (l : List α) : dAny (l.map fun a => D.bl (f a)) = .ok (.bl (l.any f)) := by
  unfold dAny
  rw [asBls_map]
  show R.ok (D.bl ((l.map f).any id)) = _
  rw [List.any_map]; rfl
theorem dJoin_s {a : Str} {l : List Str} (h : (l.map (·.length)).sum + l.length * a.length ≤ 16777216) : dJoin (.str a) (l.map D.str) = .ok (.str (Txt.join a l)) := by
  unfold dJoin
  simp only [asStrs_map, R.ok_bind]
  rw [decide_eq_true h]; rfl
/-- a comprehension over a written list, each step known -/
theorem compR_map {α : Type} {tg : D → En → R En} {elt : En → R D} {ρ : En} {g f : α → D} : ∀ {l : List α}, (∀ a ∈ l, (tg (g a) ρ >>= elt) = .ok (f a)) → compR tg bYes elt ρ (l.map g) = .ok (l.map f)
  | [], _ => rfl
  | a :: l, h => by
    have h1 := h a (List.mem_cons_self ..)
    have ih := compR_map (l := l) fun b hb => h b (List.mem_cons_of_mem _ hb)
    show (tg (g a) ρ >>= fun ρ1 => bYes ρ1 >>= fun b => if b = true then elt ρ1 >>= fun x => compR tg bYes elt ρ (l.map g) >>= fun xs => .ok (x :: xs) else compR tg bYes elt ρ (l.map g)) = _
    cases e : tg (g a) ρ with
    | ok ρ1 =>
      rw [e] at h1
      have h2 : elt ρ1 = .ok (f a) := h1
      simp [h2, ih]
    | err x => rw [e] at h1; cases h1
    | bad => rw [e] at h1; cases h1
/-- the same, of the whole comprehension -/
theorem eComp_map {α : Type} {src : En → R (List D)} {vs : List Nat} {tg : D → En → R En} {elt : En → R D} {ρ : En} {g f : α → D} {l : List α} (hs : src ρ = .ok (l.map g)) (hn : noOwn ρ vs = true) (hl : l.length < 16777216) (h : ∀ a ∈ l, (tg (g a) (wipeE ρ vs) >>= elt) = .ok (f a)) :
    eComp src vs tg bYes elt ρ = .ok (l.map f) := by
  unfold eComp
  rw [hs]
  simp only [R.ok_bind, hn, List.length_map, decide_eq_true hl, Bool.and_true, guardR_t]
  exact compR_map h
def outK : Out → R D
  | .rt d => .ok d
  | .nx _ => .ok .non
  | _ => .bad
@[simp] theorem outK_rt (d : D) : outK (.rt d) = .ok d := rfl
@[simp] theorem outK_nx (ρ : En) : outK (.nx ρ) = .ok .non := rfl
theorem runD_of {n k : Nat} {b : En → R Out} {ds : List D} (h : ds.length = n) : runD n k b ds = b (ds.map Sl.fz ++ List.replicate k .un) >>= fun o => match o with
    | .rt d => .ok d
    | .nx _ => .ok .non
    | _ => .bad := by
  unfold runD
  rw [show (ds.length == n) = true from beq_iff_eq.mpr h]; rfl
/-! step by step, nothing carried along -/
theorem seq_go {α : Type} {f g : En → R Out} {ρ ρ' : En} {k : Out → R α} {r : R α} (h : f ρ = .ok (.nx ρ')) (n : (g ρ' >>= k) = r) : (sSeq f g ρ >>= k) = r := by
  rw [sSeq_ap, h]
  exact n
theorem seq_rt {f g : En → R Out} {ρ : En} {d : D} (h : f ρ = .ok (.rt d)) : (sSeq f g ρ >>= outK) = .ok d := by
  rw [sSeq_ap, h]
  rfl
theorem seq_go' {f g : En → R Out} {ρ ρ' : En} {r : R Out} (h : f ρ = .ok (.nx ρ')) (n : g ρ' = r) : sSeq f g ρ = r := by
  rw [sSeq_ap, h]
  exact n
theorem seq_rt' {f g : En → R Out} {ρ : En} {d : D} (h : f ρ = .ok (.rt d)) : sSeq f g ρ = .ok (.rt d) := by
  rw [sSeq_ap, h]
  rfl
theorem if_t {f g : En → R Out} {ρ : En} {c : En → R Bool} {r : R Out} (h : c ρ = .ok true) (n : f ρ = r) : sIf c f g ρ = r := by
  rw [sIf_ap, h]
  exact n
theorem if_f {f g : En → R Out} {ρ : En} {c : En → R Bool} {r : R Out} (h : c ρ = .ok false) (n : g ρ = r) : sIf c f g ρ = r := by
  rw [sIf_ap, h]
  exact n
theorem ret_of {f : En → R D} {ρ : En} {d : D} (h : f ρ = .ok d) : sRet f ρ = .ok (.rt d) := by
  rw [sRet_ap, h]
  rfl
theorem set_of {i : Nat} {f : En → R D} {ρ : En} {d : D} (h : f ρ = .ok d) : sSet i f ρ = .ok (.nx (ρ.set i (.fz d))) := by
  rw [sSet_ap, h]
  rfl
theorem setO_of {i : Nat} {f : En → R (List D)} {ρ : En} {ds : List D} (h : f ρ = .ok ds) : sSetO i f ρ = .ok (.nx (ρ.set i (.ow ds))) := by
  rw [sSetO_ap, h]
  rfl
theorem ret_out {f : En → R D} {ρ : En} {d : D} (h : f ρ = .ok d) : (sRet f ρ >>= outK) = .ok d := by
  rw [ret_of h]
  rfl
theorem out_rt {g : R Out} {d : D} (h : g = .ok (.rt d)) : (g >>= outK) = .ok d := by
  rw [h]
  rfl
theorem runD1 {k : Nat} {b : En → R Out} (x : D) : runD 1 k b [x] = b (.fz x :: List.replicate k .un) >>= outK := by
  refine (runD_of rfl).trans ?_
  show (b (.fz x :: List.replicate k .un) >>= _) = _
  rfl
theorem runD2 {k : Nat} {b : En → R Out} (x y : D) : runD 2 k b [x, y] = b (.fz x :: .fz y :: List.replicate k .un) >>= outK := by
  refine (runD_of rfl).trans ?_
  show (b (.fz x :: .fz y :: List.replicate k .un) >>= _) = _
  rfl
/-- a loop whose body goes on each time: an invariant over what has been walked -/
theorem forR_go {α : Type} {tg : D → En → R En} {body : En → R Out} {g : α → D} (st : List α → En) : ∀ (l pre : List α), (∀ p a s, pre ++ l = p ++ a :: s → (tg (g a) (st p) >>= body) = .ok (.nx (st (p ++ [a])))) → forR tg body (l.map g) (st pre) = .ok (.nx (st (pre ++ l)))
  | [], pre, _ => by rw [List.append_nil]; rfl
  | a :: l, pre, h => by
    have h1 := h pre a l rfl
    have ih := forR_go st l (pre ++ [a]) fun p b s e => h p b s (by rw [← e, List.append_assoc]; rfl)
    rw [List.append_assoc] at ih
    show (tg (g a) (st pre) >>= fun ρ1 => body ρ1 >>= fun o => match o with
      | .nx ρ2 => forR tg body (l.map g) ρ2
      | .ct ρ2 => forR tg body (l.map g) ρ2
      | .bk ρ2 => .ok (.nx ρ2)
      | .rt d => .ok (.rt d)) = _
    cases e : tg (g a) (st pre) with
    | ok ρ1 =>
      rw [e] at h1
      have h2 : body ρ1 = .ok (.nx (st (pre ++ [a]))) := h1
      simp only [R.ok_bind, h2]
      exact ih
    | err x => rw [e] at h1; cases h1
    | bad => rw [e] at h1; cases h1
theorem forR_cons {tg : D → En → R En} {body : En → R Out} (d : D) (ds : List D) (ρ : En) : forR tg body (d :: ds) ρ = tg d ρ >>= fun ρ1 => body ρ1 >>= fun o => match o with
    | .nx ρ2 => forR tg body ds ρ2
    | .ct ρ2 => forR tg body ds ρ2
    | .bk ρ2 => .ok (.nx ρ2)
    | .rt d => .ok (.rt d) := rfl
theorem forR_nx {tg : D → En → R En} {body : En → R Out} {d : D} {ds : List D} {ρ ρ' : En} (h : (tg d ρ >>= body) = .ok (.nx ρ')) : forR tg body (d :: ds) ρ = forR tg body ds ρ' := by
  rw [forR_cons]
  cases e : tg d ρ with
  | ok ρ1 =>
    rw [e] at h
    have h2 : body ρ1 = .ok (.nx ρ') := h
    simp only [R.ok_bind, h2]
  | err x => rw [e] at h; cases h
  | bad => rw [e] at h; cases h
theorem forR_rt {tg : D → En → R En} {body : En → R Out} {d : D} {ds : List D} {ρ : En} {r : D} (h : (tg d ρ >>= body) = .ok (.rt r)) : forR tg body (d :: ds) ρ = .ok (.rt r) := by
  rw [forR_cons]
  cases e : tg d ρ with
  | ok ρ1 =>
    rw [e] at h
    have h2 : body ρ1 = .ok (.rt r) := h
    simp only [R.ok_bind, h2]
  | err x => rw [e] at h; cases h
  | bad => rw [e] at h; cases h
end DD

/-! SL: a store of mutable objects over the data layer, and exceptions. An object has a number; Iota tells where it stands. -/
namespace DD
open PySem PySem.Spec PyProof.Rows L2

/-! ### more objects stand -/
def Iota.le (I J : Iota) : Prop := ∀ (n : Nat) (a : Addr), I.at_[n]? = some a → J.at_[n]? = some a
theorem Iota.le.refl (I : Iota) : Iota.le I I := fun _ _ h => h
theorem Iota.le.trans {I J L : Iota} (a : Iota.le I J) (b : Iota.le J L) : Iota.le I L := fun n x h => b n x (a n x h)
section
variable {K : PySem.W.Frag} {H : Hp} {I J : Iota}
mutual
theorem Rp.ext (l : Iota.le I J) : ∀ {v : V} {d : D}, @Rp I K H v d → @Rp J K H v d
  | v, .non, h => by simpa only [Rp] using h
  | v, .bl b, h => by simpa only [Rp] using h
  | v, .int i, h => by simpa only [Rp] using h
  | v, .str i, h => by simpa only [Rp] using h
  | v, .tup ds, h => by
    simp only [Rp] at h ⊢
    obtain ⟨a, xs, e, q, r⟩ := h
    exact ⟨a, xs, e, q, Rps.ext l r⟩
  | v, .lst ds, h => by
    simp only [Rp] at h ⊢
    obtain ⟨a, xs, e, q, r⟩ := h
    exact ⟨a, xs, e, q, Rps.ext l r⟩
  | v, .rol ds, h => by
    simp only [Rp] at h ⊢
    obtain ⟨a, xs, e, q, r⟩ := h
    exact ⟨a, xs, e, q, Rps.ext l r⟩
  | v, .dic ks ds, h => by
    simp only [Rp] at h ⊢
    obtain ⟨a, xs, e, q, n, r⟩ := h
    exact ⟨a, xs, e, q, n, Rps.ext l r⟩
  | v, .ref n, h => by
    simp only [Rp] at h ⊢
    obtain ⟨a, e, q⟩ := h
    exact ⟨a, e, l n a q⟩
  | v, .clr w, h => by simpa only [Rp] using h
  | v, .ktup ds, h => by
    simp only [Rp] at h ⊢
    obtain ⟨a, xs, e, q, r⟩ := h
    exact ⟨a, xs, e, q, Rps.ext l r⟩
  | v, .ty w, h => by simpa only [Rp] using h
  | v, .exn C ns ds, h => by
    simp only [Rp] at h ⊢
    obtain ⟨a, e, ⟨d, xs, q, q2, n, r⟩ | z⟩ := h
    · exact ⟨a, e, .inl ⟨d, xs, q, q2, n, Rps.ext l r⟩⟩
    · exact ⟨a, e, .inr z⟩
theorem Rps.ext (l : Iota.le I J) : ∀ {xs : List V} {ds : List D}, @Rps I K H xs ds → @Rps J K H xs ds
  | xs, [], h => by simpa only [Rps] using h
  | xs, d :: ds, h => by
    simp only [Rps] at h ⊢
    obtain ⟨y, ys, e, q, r⟩ := h
    exact ⟨y, ys, e, Rp.ext l q, Rps.ext l r⟩
end
theorem Ok.up {W F0 F : Hp} {σ : L2.St} {ρ : En} (l : Iota.le I J) (o : @Ok I K W F0 σ ρ F H) : @Ok J K W F0 σ ρ F H := by
  refine @Ok.mk J K W F0 σ ρ F H (@Ok.toOkB I K W F0 σ ρ F H o) (@Ok.len I K W F0 σ ρ F H o) (fun i x s h1 h2 => ?_) (@Ok.dist I K W F0 σ ρ F H o)
  have q := @Ok.slots I K W F0 σ ρ F H o i x s h1 h2
  cases s with
  | un => trivial
  | fz d =>
    obtain ⟨v, e, r⟩ := q
    exact ⟨v, e, Rp.ext l r⟩
  | ow ds =>
    obtain ⟨p, vs, e, h, f, w, r⟩ := q
    exact ⟨p, vs, e, h, f, w, Rps.ext l r⟩
end

/-! ### objects of the store -/
inductive Ob where
  | lst (ds : List D) | dK (ks : List Key) (ds : List D) | dT (ks : List (List Key)) (ds : List D) | ins (C : Addr) (ns : List Str) (ds : List D)
abbrev Store := List Ob
def ObOk [Iota] (K : PySem.W.Frag) (W F W1 : Hp) (a : Addr) : Ob → Prop
  | .lst ds => ∃ vs, W1 a = some (.lst vs) ∧ Rps K F vs ds
  | .dK ks ds => ∃ vs, W1 a = some (.dK (ks.zip vs)) ∧ ks.length = vs.length ∧ Rps K F vs ds
  | .dT ks ds => ∃ vs, W1 a = some (.dT (ks.zip vs)) ∧ ks.length = vs.length ∧ Rps K F vs ds
  | .ins C ns ds => ∃ dx vs, W1 a = some (.ins C dx (ns.zip vs)) ∧ W1 dx = some (.own a) ∧ W dx = none ∧ F dx = none ∧ ns.length = vs.length ∧ Rps K F vs ds
theorem ObOk.mono [Iota] {K : PySem.W.Frag} {W F F' W1 : Hp} {a : Addr} {ob : Ob} (s : Same F F') (n : ∀ b o, NT o → W1 b = some o → F b = none → F' b = none) (h : ObOk K W F W1 a ob) : ObOk K W F' W1 a ob := by
  cases ob with
  | lst ds =>
    obtain ⟨vs, e, r⟩ := h
    exact ⟨vs, e, r.mono s⟩
  | dK ks ds =>
    obtain ⟨vs, e, l, r⟩ := h
    exact ⟨vs, e, l, r.mono s⟩
  | dT ks ds =>
    obtain ⟨vs, e, l, r⟩ := h
    exact ⟨vs, e, l, r.mono s⟩
  | ins C ns ds =>
    obtain ⟨dx, vs, e, e2, w, f, l, r⟩ := h
    exact ⟨dx, vs, e, e2, w, n _ (.own a) (fun _ z => nomatch z) e2 f, l, r.mono s⟩
theorem ObOk.ext {I J : Iota} {K : PySem.W.Frag} {W F W1 : Hp} {a : Addr} {ob : Ob} (l : Iota.le I J) (h : @ObOk I K W F W1 a ob) : @ObOk J K W F W1 a ob := by
  cases ob with
  | lst ds =>
    obtain ⟨vs, e, r⟩ := h
    exact ⟨vs, e, r.ext l⟩
  | dK ks ds =>
    obtain ⟨vs, e, n, r⟩ := h
    exact ⟨vs, e, n, r.ext l⟩
  | dT ks ds =>
    obtain ⟨vs, e, n, r⟩ := h
    exact ⟨vs, e, n, r.ext l⟩
  | ins C ns ds =>
    obtain ⟨dx, vs, e, e2, w, f, n, r⟩ := h
    exact ⟨dx, vs, e, e2, w, f, n, r.ext l⟩
/-- the store stands in W1: W is what is foreign and no object of the store, F the frozen data -/
structure StOk (I : Iota) (K : PySem.W.Frag) (S : Store) (W F W1 : Hp) : Prop where
  len : I.at_.length = S.length
  nd : I.at_.Nodup
  sub : Same W W1
  fr : ∀ (b : Addr) (x : HO), W1 b = some x → W b = none → NT x ∧ F b = none
  obj : ∀ (n : Nat) (ob : Ob) (a : Addr), S[n]? = some ob → I.at_[n]? = some a → W a = none ∧ F a = none ∧ @ObOk I K W F W1 a ob
theorem ObOk.nt [Iota] {K : PySem.W.Frag} {W F W1 : Hp} {a : Addr} {ob : Ob} {x : HO} (h : ObOk K W F W1 a ob) (e : W1 a = some x) : NT x := by
  cases ob with
  | lst ds => obtain ⟨_, e', _⟩ := h; rw [e] at e'; cases e'; exact fun _ z => nomatch z
  | dK ks ds => obtain ⟨_, e', _⟩ := h; rw [e] at e'; cases e'; exact fun _ z => nomatch z
  | dT ks ds => obtain ⟨_, e', _⟩ := h; rw [e] at e'; cases e'; exact fun _ z => nomatch z
  | ins C ns ds => obtain ⟨_, _, e', _⟩ := h; rw [e] at e'; cases e'; exact fun _ z => nomatch z
/-- data, slots and store -/
def Ok2 (I : Iota) (K : PySem.W.Frag) (S : Store) (W F0 : Hp) (σ : L2.St) (ρ : En) (F H : Hp) : Prop := ∃ W1, @Ok I K W1 F0 σ ρ F H ∧ StOk I K S W F W1
/-- what the data layer does leaves the store alone -/
theorem StOk.keepB {I : Iota} {K : PySem.W.Frag} {S : Store} {W F F' H' W1 : Hp} (s : StOk I K S W F W1) (o : OkB W1 F F' H') : StOk I K S W F' W1 :=
  ⟨s.len, s.nd, s.sub, fun b x e w => ⟨(s.fr b x e w).1, o.new b x (s.fr b x e w).1 e (s.fr b x e w).2⟩, fun n ob a h1 h2 => by
    obtain ⟨w, f, q⟩ := s.obj n ob a h1 h2
    have nn : ∀ b x, NT x → W1 b = some x → F b = none → F' b = none := fun b x nt e f => o.new b x nt e f
    refine ⟨w, ?_, q.mono o.ext nn⟩
    have : ∃ x, W1 a = some x ∧ NT x := by
      cases ob with
      | lst ds => obtain ⟨_, e, _⟩ := q; exact ⟨_, e, fun _ z => nomatch z⟩
      | dK ks ds => obtain ⟨_, e, _⟩ := q; exact ⟨_, e, fun _ z => nomatch z⟩
      | dT ks ds => obtain ⟨_, e, _⟩ := q; exact ⟨_, e, fun _ z => nomatch z⟩
      | ins C ns ds => obtain ⟨_, _, e, _⟩ := q; exact ⟨_, e, fun _ z => nomatch z⟩
    obtain ⟨x, e, nt⟩ := this
    exact nn a x nt e f⟩
theorem StOk.keep {I : Iota} {K : PySem.W.Frag} {S : Store} {W F F' H' W1 : Hp} {σ : L2.St} {ρ : En} (s : StOk I K S W F W1) (o : @Ok I K W1 F σ ρ F' H') (st : Same F F') : StOk I K S W F' W1 := s.keepB (@Ok.toOkB I K W1 F σ ρ F' H' o)

/-! ### answers with a store -/
structure Exc where
  cls : Addr
  has : Bool
  ns : List Str
  ds : List D
inductive RS (α : Type) where
  | ok (a : α) (S : Store) | err (x : Exc) (S : Store) | bad
abbrev SM (α : Type) := Store → RS α
def SM.bind {α β : Type} (m : SM α) (f : α → SM β) : SM β := fun S => match m S with
  | .ok a S' => f a S'
  | .err x S' => .err x S'
  | .bad => .bad
instance : Monad SM where
  pure a := fun S => .ok a S
  bind := SM.bind
def SM.ret {α : Type} (a : α) : SM α := fun S => .ok a S
/-- a plain answer in the store -/
def SM.lift {α : Type} (r : R α) : SM α := fun S => match r with
  | .ok a => .ok a S
  | _ => .bad
def G2 {α : Type} (r : RS α) (P : α → Store → Prop) (X : Exc → Store → Prop) : Prop := match r with
  | .ok a S => P a S
  | .err x S => X x S
  | .bad => False
theorem G2.of_bind {α β : Type} {m : SM α} {f : α → SM β} {S : Store} {P : β → Store → Prop} {X : Exc → Store → Prop} (h : G2 ((m >>= f) S) P X) : G2 (m S) (fun a S' => G2 (f a S') P X) X := by
  have e : (m >>= f) S = (match m S with | .ok a S' => f a S' | .err x S' => .err x S' | .bad => .bad) := rfl
  rw [e] at h
  cases hm : m S with
  | ok a S' => rw [hm] at h; exact h
  | err x S' => rw [hm] at h; exact h
  | bad => rw [hm] at h; exact h
theorem G2.imp {α : Type} {r : RS α} {P P' : α → Store → Prop} {X X' : Exc → Store → Prop} (h : G2 r P X) (a : ∀ x S, P x S → P' x S) (b : ∀ x S, X x S → X' x S) : G2 r P' X' := by
  cases r with
  | ok x S => exact a x S h
  | err x S => exact b x S h
  | bad => exact h
theorem G2.of_lift {α : Type} {r : R α} {S : Store} {P : α → Store → Prop} {X : Exc → Store → Prop} (h : G2 (SM.lift r S) P X) : ∃ a, r = .ok a ∧ P a S := by
  cases r with
  | ok a => exact ⟨a, rfl, h⟩
  | err x => exact h.elim
  | bad => exact h.elim
/-- an exception's class, and its fields in its dict, a frozen object (has: whether it has a dict) -/
def Xr (I : Iota) (K : PySem.W.Frag) (F H : Hp) (x : Exc) (cls : Value) (dd : Option Addr) : Prop :=
  cls = .ref x.cls ∧ ((dd = none ∧ x.has = false ∧ x.ns = [] ∧ x.ds = []) ∨ (x.has = true ∧ ∃ d vs, dd = some d ∧ F d = some (.xd (x.ns.zip vs)) ∧ x.ns.length = vs.length ∧ @Rps I K F vs x.ds))

/-! ### expressions -/
section
variable (K : PySem.W.Frag) (E : WX)
def KX (I : Iota) (W F0 : Hp) (σ : L2.St) (ρ : En) (F : Hp) : Exc → Store → Prop := fun x S' => ∀ (I' : Iota) (cls : Value) (dd : Option Addr) (F' H' : Hp), Iota.le I I' → Ok2 I' K S' W F0 σ ρ F' H' → Same F F' → Xr I' K F' H' x cls dd → E cls dd σ H'
def DE2 (t : TE) (f : En → SM D) : Prop := ∀ (I : Iota) (W F0 : Hp) (σ : L2.St) (ρ : En) (S : Store) (F H : Hp) (Q : VK), Ok2 I K S W F0 σ ρ F H →
  G2 (f ρ S) (fun d S' => ∀ (I' : Iota) v F' H', Iota.le I I' → Ok2 I' K S' W F0 σ ρ F' H' → Same F F' → @Rp I' K F' v d → Q v H') (KX K E I W F0 σ ρ F) → t σ H Q
def DT2 (t : TT) (f : En → SM Bool) : Prop := ∀ (I : Iota) (W F0 : Hp) (σ : L2.St) (ρ : En) (S : Store) (F H : Hp) (Q : Bool → Hp → Prop), Ok2 I K S W F0 σ ρ F H →
  G2 (f ρ S) (fun b S' => ∀ (I' : Iota) F' H', Iota.le I I' → Ok2 I' K S' W F0 σ ρ F' H' → Same F F' → Q b H') (KX K E I W F0 σ ρ F) → t σ H Q
def DA2 (t : TA) (f : En → SM (List D)) : Prop := ∀ (I : Iota) (W F0 : Hp) (σ : L2.St) (ρ : En) (S : Store) (F H : Hp) (Q : List V → Hp → Prop), Ok2 I K S W F0 σ ρ F H →
  G2 (f ρ S) (fun ds S' => ∀ (I' : Iota) vs F' H', Iota.le I I' → Ok2 I' K S' W F0 σ ρ F' H' → Same F F' → @Rps I' K F' vs ds → Q vs H') (KX K E I W F0 σ ρ F) → t σ H Q
end
theorem KX.mono {K : PySem.W.Frag} {E : WX} {I J : Iota} {W F0 F F' : Hp} {σ : L2.St} {ρ : En} {x : Exc} {S : Store} (l : Iota.le I J) (s : Same F F') (h : KX K E I W F0 σ ρ F x S) : KX K E J W F0 σ ρ F' x S :=
  fun I' cls dd F2 H2 l2 o2 s2 r2 => h I' cls dd F2 H2 (l.trans l2) o2 (s.trans s2) r2
structure PE2 (X : Cx) (E : WX) (e : Expr) (t : TE) (f : En → SM D) : Prop where
  pe : PE X e t
  de : DE2 X.K E t f
structure PT2 (X : Cx) (E : WX) (e : Expr) (t : TT) (f : En → SM Bool) : Prop where
  pe : PT X e t
  de : DT2 X.K E t f
structure PA2 (X : Cx) (E : WX) (es : List Expr) (t : TA) (f : En → SM (List D)) : Prop where
  pe : PA X es t
  de : DA2 X.K E t f
/-- after a reading of the data layer -/
theorem Ok2.after {I : Iota} {K : PySem.W.Frag} {S : Store} {W F0 F F' H H' W1 : Hp} {σ : L2.St} {ρ : En} (o1 : @Ok I K W1 F0 σ ρ F H) (s1 : StOk I K S W F W1) (o2 : @Ok I K W1 F σ ρ F' H') (s2 : Same F F') : Ok2 I K S W F0 σ ρ F' H' :=
  ⟨W1, @Ok.rebase I K W1 F0 F' H' σ ρ F H o2 (@Ok.toOkB I K W1 F0 σ ρ F H o1), s1.keep o2 s2⟩
/-- what the data layer reads -/
theorem pe2_lift {X : Cx} {E : WX} {e : Expr} {t : TE} {f : En → R D} (h : ∀ I : Iota, @PD I X e t f) : PE2 X E e t (fun ρ => SM.lift (f ρ)) := by
  refine ⟨@PD.pe ⟨[]⟩ X e t f (h ⟨[]⟩), fun I W F0 σ ρ S F H Q o g => ?_⟩
  obtain ⟨W1, o1, s1⟩ := o
  obtain ⟨d, e1, k⟩ := g.of_lift
  exact @PD.de I X e t f (h I) W1 F σ ρ F H d Q (@Ok.self I X.K W1 F0 F H σ ρ o1) e1 fun v F' H' o2 s2 r2 => k I v F' H' (Iota.le.refl I) (Ok2.after o1 s1 o2 s2) s2 r2
theorem pt2_lift {X : Cx} {E : WX} {e : Expr} {t : TT} {f : En → R Bool} (h : ∀ I : Iota, @PTD I X e t f) : PT2 X E e t (fun ρ => SM.lift (f ρ)) := by
  refine ⟨@PTD.pe ⟨[]⟩ X e t f (h ⟨[]⟩), fun I W F0 σ ρ S F H Q o g => ?_⟩
  obtain ⟨W1, o1, s1⟩ := o
  obtain ⟨b, e1, k⟩ := g.of_lift
  exact @PTD.de I X e t f (h I) W1 F σ ρ F H b Q (@Ok.self I X.K W1 F0 F H σ ρ o1) e1 fun F' H' o2 s2 => k I F' H' (Iota.le.refl I) (Ok2.after o1 s1 o2 s2) s2
theorem pa2_lift {X : Cx} {E : WX} {es : List Expr} {t : TA} {f : En → R (List D)} (h : ∀ I : Iota, @PAD I X es t f) : PA2 X E es t (fun ρ => SM.lift (f ρ)) := by
  refine ⟨@PAD.pe ⟨[]⟩ X es t f (h ⟨[]⟩), fun I W F0 σ ρ S F H Q o g => ?_⟩
  obtain ⟨W1, o1, s1⟩ := o
  obtain ⟨ds, e1, k⟩ := g.of_lift
  exact @PAD.de I X es t f (h I) W1 F σ ρ F H ds Q (@Ok.self I X.K W1 F0 F H σ ρ o1) e1 fun vs F' H' o2 s2 r2 => k I vs F' H' (Iota.le.refl I) (Ok2.after o1 s1 o2 s2) s2 r2
end DD

namespace DD
open PySem PySem.Spec PyProof.Rows L2

/-! ### the store grows, an object is changed -/
section
variable {I : Iota} {K : PySem.W.Frag} {S : Store} {W F0 F H W1 : Hp} {σ : L2.St} {ρ : En}
theorem ObOk.there {a : Addr} {ob : Ob} (h : @ObOk I K W F W1 a ob) : ∃ x, W1 a = some x ∧ ∀ b, x ≠ .own b := by
  cases ob with
  | lst ds => obtain ⟨_, e, _⟩ := h; exact ⟨_, e, fun b z => by cases z⟩
  | dK ks ds => obtain ⟨_, e, _⟩ := h; exact ⟨_, e, fun b z => by cases z⟩
  | dT ks ds => obtain ⟨_, e, _⟩ := h; exact ⟨_, e, fun b z => by cases z⟩
  | ins C ns ds => obtain ⟨_, _, e, _⟩ := h; exact ⟨_, e, fun b z => by cases z⟩
theorem StOk.at_some (s : StOk I K S W F W1) {n : Nat} {a : Addr} (h : I.at_[n]? = some a) : ∃ ob, S[n]? = some ob := by
  have hn : n < S.length := by rw [← s.len]; exact (List.getElem?_eq_some_iff.mp h).1
  exact ⟨_, List.getElem?_eq_getElem hn⟩
theorem StOk.mem_some (s : StOk I K S W F W1) {a : Addr} (h : a ∈ I.at_) : ∃ x, W1 a = some x := by
  obtain ⟨n, hn⟩ := List.getElem?_of_mem h
  obtain ⟨ob, ho⟩ := s.at_some hn
  obtain ⟨_, _, q⟩ := s.obj n ob a ho hn
  obtain ⟨x, e, _⟩ := q.there
  exact ⟨x, e⟩
/-- the foreign heap gets, or changes, an object that no slot owns -/
theorem Ok.updW (o : @Ok I K W1 F0 σ ρ F H) {a : Addr} {u : HO} (hf : F a = none) (hs : ∀ (i : Nat) (p : Addr) ds, σ[i]? = some (some (.ref p)) → ρ[i]? = some (.ow ds) → p ≠ a) : @Ok I K (upd W1 a u) F0 σ ρ F (upd H a u) := by
  have nf : ∀ b x, F b = some x → b ≠ a := fun b x e z => by rw [z, hf] at e; cases e
  refine ⟨⟨fun b x e => ?_, fun b x e => ?_, o.ext, fun b x nt e1 e2 => ?_⟩, o.len, fun i x sl h1 h2 => ?_, o.dist⟩
  · rw [upd_ne (nf b x e)]; exact o.sub b x e
  · by_cases hb : b = a
    · subst hb; rw [upd_same] at e ⊢; exact e
    · rw [upd_ne hb] at e ⊢; exact o.wld b x e
  · by_cases hb : b = a
    · subst hb; exact hf
    · rw [upd_ne hb] at e1; exact o.new b x nt e1 e2
  · have q := o.slots i x sl h1 h2
    cases sl with
    | un => trivial
    | fz d => exact q
    | ow ds =>
      obtain ⟨p, vs, e, h', f, w, r⟩ := q
      have np : p ≠ a := hs i p ds (by rw [h1, e]) h2
      exact ⟨p, vs, e, by rw [upd_ne np]; exact h', f, by rw [upd_ne np]; exact w, r⟩
theorem Ok.own_ne (o : @Ok I K W1 F0 σ ρ F H) {a : Addr} {x : HO} (hw : W1 a = some x) : ∀ (i : Nat) (p : Addr) ds, σ[i]? = some (some (.ref p)) → ρ[i]? = some (.ow ds) → p ≠ a := fun i p ds h1 h2 z => by
  obtain ⟨p', vs, e, _, _, w, _⟩ := o.slots i _ _ h1 h2
  cases e
  rw [z, hw] at w; cases w
theorem Ok.own_new (o : @Ok I K W1 F0 σ ρ F H) {a : Addr} (hl : H a = none) : ∀ (i : Nat) (p : Addr) ds, σ[i]? = some (some (.ref p)) → ρ[i]? = some (.ow ds) → p ≠ a := fun i p ds h1 h2 z => by
  obtain ⟨p', vs, e, h, _, _, _⟩ := o.slots i _ _ h1 h2
  cases e
  rw [z, hl] at h; cases h
theorem ObOk.other {a b : Addr} {ob : Ob} {u : HO} {x : HO} (h : @ObOk I K W F W1 b ob) (hb : b ≠ a) (ha : W1 a = some x) (hx : ∀ c, x ≠ .own c) : @ObOk I K W F (upd W1 a u) b ob := by
  cases ob with
  | lst ds => obtain ⟨vs, e, r⟩ := h; exact ⟨vs, by rw [upd_ne hb]; exact e, r⟩
  | dK ks ds => obtain ⟨vs, e, r⟩ := h; exact ⟨vs, by rw [upd_ne hb]; exact e, r⟩
  | dT ks ds => obtain ⟨vs, e, r⟩ := h; exact ⟨vs, by rw [upd_ne hb]; exact e, r⟩
  | ins C ns ds =>
    obtain ⟨dx, vs, e, e2, w, f, r⟩ := h
    refine ⟨dx, vs, by rw [upd_ne hb]; exact e, ?_, w, f, r⟩
    rw [upd_ne (fun z => hx b (by rw [z, ha] at e2; exact Option.some.inj e2))]
    exact e2
theorem ObOk.new {a b : Addr} {ob : Ob} {u : HO} (h : @ObOk I K W F W1 b ob) (ha : W1 a = none) : @ObOk I K W F (upd W1 a u) b ob := by
  have ne : ∀ c x, W1 c = some x → c ≠ a := fun c x e z => by rw [z, ha] at e; cases e
  cases ob with
  | lst ds => obtain ⟨vs, e, r⟩ := h; exact ⟨vs, by rw [upd_ne (ne _ _ e)]; exact e, r⟩
  | dK ks ds => obtain ⟨vs, e, r⟩ := h; exact ⟨vs, by rw [upd_ne (ne _ _ e)]; exact e, r⟩
  | dT ks ds => obtain ⟨vs, e, r⟩ := h; exact ⟨vs, by rw [upd_ne (ne _ _ e)]; exact e, r⟩
  | ins C ns ds =>
    obtain ⟨dx, vs, e, e2, w, f, r⟩ := h
    exact ⟨dx, vs, by rw [upd_ne (ne _ _ e)]; exact e, by rw [upd_ne (ne _ _ e2)]; exact e2, w, f, r⟩
/-- I with one more -/
@[reducible] def Iota.push (I : Iota) (l : Addr) : Iota := ⟨I.at_ ++ [l]⟩
theorem Iota.le_push (I : Iota) (l : Addr) : Iota.le I (I.push l) := fun n a h => by
  show (I.at_ ++ [l])[n]? = some a
  rw [List.getElem?_append_left (List.getElem?_eq_some_iff.mp h).1]
  exact h
theorem Ok2.alloc1 (o1 : @Ok I K W1 F0 σ ρ F H) (s1 : StOk I K S W F W1) {l : Addr} {u : HO} {ob : Ob} (hl : H l = none) (hob : @ObOk I K W F (upd W1 l u) l ob) : Ok2 (I.push l) K (S ++ [ob]) W F0 σ ρ F (upd H l u) := by
  have hw : W1 l = none := Same.free o1.wld hl
  have hf : F l = none := Same.free o1.sub hl
  have hW : W l = none := Same.free s1.sub hw
  have hle := Iota.le_push I l
  refine ⟨upd W1 l u, Ok.up hle (Ok.updW o1 hf (Ok.own_new o1 hl)), ?_, ?_, ?_, fun b x e w => ?_, fun n ob' a h1 h2 => ?_⟩
  · show (I.at_ ++ [l]).length = (S ++ [ob]).length
    rw [List.length_append, List.length_append, s1.len]; rfl
  · show (I.at_ ++ [l]).Nodup
    rw [List.nodup_append]
    refine ⟨s1.nd, by simp, fun a ha b hb => ?_⟩
    rw [List.mem_singleton.mp hb]
    intro z
    subst z
    obtain ⟨x, e⟩ := s1.mem_some ha
    rw [hw] at e; cases e
  · exact s1.sub.trans (same_upd hw)
  · by_cases hb : b = l
    · subst hb; exact ⟨hob.nt e, hf⟩
    · rw [upd_ne hb] at e; exact s1.fr b x e w
  · have h2' : (I.at_ ++ [l])[n]? = some a := h2
    by_cases hn : n < S.length
    · rw [List.getElem?_append_left hn] at h1
      rw [List.getElem?_append_left (by rw [s1.len]; exact hn)] at h2'
      obtain ⟨w, f, q⟩ := s1.obj n ob' a h1 h2'
      exact ⟨w, f, (ObOk.new q hw).ext hle⟩
    · rw [List.getElem?_append_right (by omega)] at h1
      rw [List.getElem?_append_right (by rw [s1.len]; omega), s1.len] at h2'
      have hn0 : n - S.length = 0 := by
        have := (List.getElem?_eq_some_iff.mp h1).1
        simp at this; omega
      rw [hn0] at h1 h2'
      cases h1; cases h2'
      exact ⟨hW, hf, hob.ext hle⟩
theorem Ok2.alloc (o : Ok2 I K S W F0 σ ρ F H) {l : Addr} {u : HO} {ob : Ob} (hl : H l = none) (hob : ∀ V1 : Hp, V1 l = some u → @ObOk I K W F V1 l ob) : Ok2 (I.push l) K (S ++ [ob]) W F0 σ ρ F (upd H l u) := by
  obtain ⟨W1, o1, s1⟩ := o
  exact Ok2.alloc1 o1 s1 hl (hob _ upd_same)
/-- a new instance, its dict at dx -/
theorem Ok2.allocI (o : Ok2 I K S W F0 σ ρ F H) {x dx C : Addr} (hx : H x = none) (hd : H dx = none) (hne : dx ≠ x) : Ok2 (I.push x) K (S ++ [.ins C [] []]) W F0 σ ρ F (upd (upd H dx (.own x)) x (.ins C dx [])) := by
  obtain ⟨W1, o1, s1⟩ := o
  have hw : W1 dx = none := Same.free o1.wld hd
  have hf : F dx = none := Same.free o1.sub hd
  have hW : W dx = none := Same.free s1.sub hw
  have o2 := Ok.updW (u := .own x) o1 hf (Ok.own_new o1 hd)
  have s2 : StOk I K S W F (upd W1 dx (.own x)) := ⟨s1.len, s1.nd, s1.sub.trans (same_upd hw), fun b y e w => by
    by_cases hb : b = dx
    · subst hb; rw [upd_same] at e; cases e; exact ⟨fun _ z => (nomatch z), hf⟩
    · rw [upd_ne hb] at e; exact s1.fr b y e w, fun n ob a h1 h2 => by
    obtain ⟨w, f, q⟩ := s1.obj n ob a h1 h2
    exact ⟨w, f, ObOk.new q hw⟩⟩
  refine Ok2.alloc1 o2 s2 (by rw [upd_ne (Ne.symm hne)]; exact hx) ⟨dx, [], upd_same, ?_, hW, hf, rfl, @Rps.nil I K F⟩
  rw [upd_ne hne, upd_same]
/-- what an object of the store is -/
theorem Ok2.get (o : Ok2 I K S W F0 σ ρ F H) {n : Nat} {ob : Ob} {a : Addr} (h1 : S[n]? = some ob) (h2 : I.at_[n]? = some a) : @ObOk I K W F H a ob := by
  obtain ⟨W1, o1, s1⟩ := o
  obtain ⟨_, _, q⟩ := s1.obj n ob a h1 h2
  cases ob with
  | lst ds => obtain ⟨vs, e, r⟩ := q; exact ⟨vs, o1.wld _ _ e, r⟩
  | dK ks ds => obtain ⟨vs, e, r⟩ := q; exact ⟨vs, o1.wld _ _ e, r⟩
  | dT ks ds => obtain ⟨vs, e, r⟩ := q; exact ⟨vs, o1.wld _ _ e, r⟩
  | ins C ns ds => obtain ⟨dx, vs, e, e2, r⟩ := q; exact ⟨dx, vs, o1.wld _ _ e, o1.wld _ _ e2, r⟩
/-- an object is changed: its kind is told by what stands there afterwards -/
theorem Ok2.put (o : Ok2 I K S W F0 σ ρ F H) {n : Nat} {ob ob' : Ob} {a : Addr} {u : HO} (h1 : S[n]? = some ob) (h2 : I.at_[n]? = some a) (hob : ∀ W1 : Hp, Same W1 H → @ObOk I K W F W1 a ob → @ObOk I K W F (upd W1 a u) a ob') : Ok2 I K (S.set n ob') W F0 σ ρ F (upd H a u) := by
  obtain ⟨W1, o1, s1⟩ := o
  obtain ⟨w, f, q⟩ := s1.obj n ob a h1 h2
  obtain ⟨x, e, hx⟩ := q.there
  refine ⟨upd W1 a u, Ok.updW o1 f (Ok.own_ne o1 e), ?_, s1.nd, fun b y eb => ?_, fun b y eb wb => ?_, fun m ob2 b h3 h4 => ?_⟩
  · rw [s1.len, List.length_set]
  · rw [upd_ne (fun z => by rw [z, w] at eb; cases eb)]; exact s1.sub b y eb
  · by_cases hb : b = a
    · subst hb; exact ⟨(hob W1 o1.wld q).nt eb, f⟩
    · rw [upd_ne hb] at eb; exact s1.fr b y eb wb
  · by_cases hm : n = m
    · subst hm
      rw [List.getElem?_set_self (List.getElem?_eq_some_iff.mp h1).1] at h3
      rw [h2] at h4
      cases h3; cases h4
      exact ⟨w, f, hob W1 o1.wld q⟩
    · rw [List.getElem?_set_ne hm] at h3
      obtain ⟨w2, f2, q2⟩ := s1.obj m ob2 b h3 h4
      have hb : b ≠ a := fun z => by
        subst z
        have hn := (List.getElem?_eq_some_iff.mp h2)
        have hm' := (List.getElem?_eq_some_iff.mp h4)
        obtain ⟨p1, e1⟩ := hn
        obtain ⟨p2, e2⟩ := hm'
        have pw := List.pairwise_iff_getElem.mp s1.nd
        rcases Nat.lt_or_gt_of_ne hm with h | h
        · exact pw n m p1 p2 h (e1.trans e2.symm)
        · exact pw m n p2 p1 h (e2.trans e1.symm)
      exact ⟨w2, f2, ObOk.other q2 hb e hx⟩
end
end DD

namespace DD
open PySem PySem.Spec PyProof.Rows L2

/-! ### expressions over the store, put together -/
def zBin (g : D → D → R D) (a b : En → SM D) : En → SM D := fun ρ => a ρ >>= fun x => b ρ >>= fun y => SM.lift (g x y)
def zCall (g : List D → R D) (f : En → SM (List D)) : En → SM D := fun ρ => f ρ >>= fun ds => SM.lift (g ds)
def zNil : En → SM (List D) := fun _ => SM.ret []
def zCons (a : En → SM D) (r : En → SM (List D)) : En → SM (List D) := fun ρ => a ρ >>= fun x => r ρ >>= fun xs => SM.ret (x :: xs)
def zTup (f : En → SM (List D)) : En → SM D := fun ρ => f ρ >>= fun ds => SM.lift (guardR (small ds.length)) >>= fun _ => SM.ret (.tup ds)
/-- a list that is never changed -/
def zLst (f : En → SM (List D)) : En → SM D := fun ρ => f ρ >>= fun ds => SM.lift (guardR (small ds.length)) >>= fun _ => SM.ret (.lst ds)
def SM.new (ob : Ob) : SM D := fun S => .ok (.ref S.length) (S ++ [ob])
/-- a list of the store -/
def zNew (f : En → SM (List D)) : En → SM D := fun ρ => f ρ >>= fun ds => SM.lift (guardR (small ds.length)) >>= fun _ => SM.new (.lst ds)
def zTst (f : En → SM D) : En → SM Bool := fun ρ => f ρ >>= fun d => SM.lift (asB d)
def zNot (f : En → SM Bool) : En → SM Bool := fun ρ => f ρ >>= fun b => SM.ret (!b)
def zAnd (f g : En → SM Bool) : En → SM Bool := fun ρ => f ρ >>= fun b => if b = true then g ρ else SM.ret false
def zOr (f g : En → SM Bool) : En → SM Bool := fun ρ => f ρ >>= fun b => if b = true then SM.ret true else g ρ
def zIf (c : En → SM Bool) (f g : En → SM D) : En → SM D := fun ρ => c ρ >>= fun b => if b = true then f ρ else g ρ
def zAndV (f g : En → SM D) : En → SM D := fun ρ => f ρ >>= fun d => SM.lift (asB d) >>= fun b => if b = true then g ρ else SM.ret (.bl false)
def zOrV (f g : En → SM D) : En → SM D := fun ρ => f ρ >>= fun d => SM.lift (asB d) >>= fun b => if b = true then SM.ret (.bl true) else g ρ
section
variable {K : PySem.W.Frag} {E : WX}
theorem de2_bin {r : R2} {g : D → D → R D} {ta tb : TE} {a b : En → SM D} (hr : ∀ I : Iota, @DR2 I K r g) (ha : DE2 K E ta a) (hb : DE2 K E tb b) : DE2 K E (tOp r ta tb) (zBin g a b) := fun I W F0 σ ρ S F H Q o g0 => by
  refine ha I W F0 σ ρ S F H _ o ((G2.of_bind g0).imp (fun x S1 g1 J v F1 H1 l1 o1 s1 r1 => ?_) fun _ _ h => h)
  refine hb J W F0 σ ρ S1 F1 H1 _ o1 ((G2.of_bind g1).imp (fun y S2 g2 L w F2 H2 l2 o2 s2 r2 => ?_) fun _ _ h => h.mono l1 s1)
  obtain ⟨W1, b1, st⟩ := o2
  obtain ⟨d, e, k⟩ := g2.of_lift
  exact hr L W1 F2 σ ρ F2 H2 v w x y d Q (@Ok.self L K W1 F0 F2 H2 σ ρ b1) (@Rp.mono L K F1 F2 s2 v x (Rp.ext l2 r1)) r2 e fun u F3 H3 o3 s3 r3 => k L u F3 H3 (l1.trans l2) (Ok2.after b1 st o3 s3) ((s1.trans s2).trans s3) r3
theorem de2_call {r : List V → Hp → VK → Prop} {g : List D → R D} {t : TA} {f : En → SM (List D)} (hr : ∀ I : Iota, @DCl I K r g) (h : DA2 K E t f) : DE2 K E (tCB r t) (zCall g f) := fun I W F0 σ ρ S F H Q o g0 => by
  refine h I W F0 σ ρ S F H _ o ((G2.of_bind g0).imp (fun ds S1 g1 J vs F1 H1 l1 o1 s1 r1 => ?_) fun _ _ h => h)
  obtain ⟨W1, b1, st⟩ := o1
  obtain ⟨d, e, k⟩ := g1.of_lift
  exact hr J W1 F1 σ ρ F1 H1 vs ds d Q (@Ok.self J K W1 F0 F1 H1 σ ρ b1) r1 e fun u F3 H3 o3 s3 r3 => k J u F3 H3 l1 (Ok2.after b1 st o3 s3) (s1.trans s3) r3
theorem da2_nil : DA2 K E tNil zNil := fun I W F0 σ ρ S F H Q o g0 => g0 I [] F H (Iota.le.refl I) o (Same.refl _) (@Rps.nil I K F)
theorem da2_cons {ta : TE} {t : TA} {a : En → SM D} {r : En → SM (List D)} (ha : DE2 K E ta a) (hr : DA2 K E t r) : DA2 K E (tCons ta t) (zCons a r) := fun I W F0 σ ρ S F H Q o g0 => by
  refine ha I W F0 σ ρ S F H _ o ((G2.of_bind g0).imp (fun x S1 g1 J v F1 H1 l1 o1 s1 r1 => ?_) fun _ _ h => h)
  refine hr J W F0 σ ρ S1 F1 H1 _ o1 ((G2.of_bind g1).imp (fun xs S2 g2 L vs F2 H2 l2 o2 s2 r2 => ?_) fun _ _ h => h.mono l1 s1)
  exact g2 L _ F2 H2 (l1.trans l2) o2 (s1.trans s2) (@Rps.cons L K F2 _ _ _ _ (@Rp.mono L K F1 F2 s2 v x (Rp.ext l2 r1)) r2)
/-- a new object that is never changed -/
theorem Ok2.frozen {I : Iota} {S : Store} {W F0 F H : Hp} {σ : L2.St} {ρ : En} (o : Ok2 I K S W F0 σ ρ F H) {p : Addr} (u : HO) (hp : H p = none) : Ok2 I K S W F0 σ ρ (upd F p u) (upd H p u) ∧ Same F (upd F p u) := by
  obtain ⟨W1, b1, st⟩ := o
  have hf : F p = none := Same.free b1.sub hp
  have s := same_upd (u := u) hf
  exact ⟨Ok2.after b1 st (@Ok.push I K W1 F F H σ ρ (@Ok.self I K W1 F0 F H σ ρ b1) p u hp) s, s⟩
theorem de2_tup {t : TA} {f : En → SM (List D)} (h : DA2 K E t f) : DE2 K E (tTup t) (zTup f) := fun I W F0 σ ρ S F H Q o g0 => by
  refine h I W F0 σ ρ S F H _ o ((G2.of_bind g0).imp (fun ds S1 g1 J vs F1 H1 l1 o1 s1 r1 => ?_) fun _ _ h => h)
  obtain ⟨u, e, k⟩ := (G2.of_bind g1).of_lift
  refine ⟨by rw [@Rps.length J K F1 vs ds r1]; exact of_small (of_guard e), fun p hp => ?_⟩
  obtain ⟨o2, s2⟩ := o1.frozen (.tup vs) hp
  exact k J _ _ _ l1 o2 (s1.trans s2) ((@rp_tup J K (upd F1 p (.tup vs)) _ ds).mpr ⟨p, vs, rfl, upd_same, @Rps.mono J K F1 _ s2 vs ds r1⟩)
theorem de2_lst {t : TA} {f : En → SM (List D)} (h : DA2 K E t f) : DE2 K E (tLst t) (zLst f) := fun I W F0 σ ρ S F H Q o g0 => by
  refine h I W F0 σ ρ S F H _ o ((G2.of_bind g0).imp (fun ds S1 g1 J vs F1 H1 l1 o1 s1 r1 => ?_) fun _ _ h => h)
  obtain ⟨u, e, k⟩ := (G2.of_bind g1).of_lift
  refine ⟨by rw [@Rps.length J K F1 vs ds r1]; exact of_small (of_guard e), fun p hp => ?_⟩
  obtain ⟨o2, s2⟩ := o1.frozen (.lst vs) hp
  exact k J _ _ _ l1 o2 (s1.trans s2) ((@rp_lst J K (upd F1 p (.lst vs)) _ ds).mpr ⟨p, vs, rfl, upd_same, @Rps.mono J K F1 _ s2 vs ds r1⟩)
theorem de2_new {t : TA} {f : En → SM (List D)} (h : DA2 K E t f) : DE2 K E (tLst t) (zNew f) := fun I W F0 σ ρ S F H Q o g0 => by
  refine h I W F0 σ ρ S F H _ o ((G2.of_bind g0).imp (fun ds S1 g1 J vs F1 H1 l1 o1 s1 r1 => ?_) fun _ _ h => h)
  obtain ⟨u, e, k⟩ := (G2.of_bind g1).of_lift
  refine ⟨by rw [@Rps.length J K F1 vs ds r1]; exact of_small (of_guard e), fun p hp => ?_⟩
  have hlen : J.at_.length = S1.length := by obtain ⟨_, _, st⟩ := o1; exact st.len
  have o2 := o1.alloc (u := .lst vs) (ob := .lst ds) hp fun V1 hV => ⟨vs, hV, r1⟩
  refine k (J.push p) _ _ _ (l1.trans (Iota.le_push J p)) o2 s1 ((@rp_ref (J.push p) K F1 _ _).mpr ⟨p, rfl, ?_⟩)
  show (J.at_ ++ [p])[S1.length]? = some p
  rw [← hlen]; simp
theorem dt2_tst {t : TE} {f : En → SM D} (h : DE2 K E t f) : DT2 K E (tTest t) (zTst f) := fun I W F0 σ ρ S F H Q o g0 => by
  refine h I W F0 σ ρ S F H _ o ((G2.of_bind g0).imp (fun d S1 g1 J v F1 H1 l1 o1 s1 r1 => ?_) fun _ _ h => h)
  obtain ⟨b, e, k⟩ := g1.of_lift
  cases asB_ok e
  exact ⟨b, (@rp_bl J K F1 v b).mp r1, k J F1 H1 l1 o1 s1⟩
theorem dt2_not {t : TT} {f : En → SM Bool} (h : DT2 K E t f) : DT2 K E (tNot t) (zNot f) := fun I W F0 σ ρ S F H Q o g0 =>
  h I W F0 σ ρ S F H _ o ((G2.of_bind g0).imp (fun b S1 g1 J F1 H1 l1 o1 s1 => g1 J F1 H1 l1 o1 s1) fun _ _ h => h)
theorem dt2_and {t u : TT} {f g : En → SM Bool} (ha : DT2 K E t f) (hb : DT2 K E u g) : DT2 K E (tAnd t u) (zAnd f g) := fun I W F0 σ ρ S F H Q o g0 => by
  refine ha I W F0 σ ρ S F H _ o ((G2.of_bind g0).imp (fun c S1 g1 J F1 H1 l1 o1 s1 => ?_) fun _ _ h => h)
  cases c with
  | true =>
    have g2 : G2 (g ρ S1) _ _ := g1
    exact iteT (hb J W F0 σ ρ S1 F1 H1 _ o1 (G2.imp g2 (fun b S2 g3 L F2 H2 l2 o2 s2 => g3 L F2 H2 (l1.trans l2) o2 (s1.trans s2)) fun _ _ h => KX.mono l1 s1 h))
  | false =>
    have g2 : G2 (SM.ret false S1) _ _ := g1
    exact iteF (g2 J F1 H1 l1 o1 s1)
theorem dt2_or {t u : TT} {f g : En → SM Bool} (ha : DT2 K E t f) (hb : DT2 K E u g) : DT2 K E (tOr t u) (zOr f g) := fun I W F0 σ ρ S F H Q o g0 => by
  refine ha I W F0 σ ρ S F H _ o ((G2.of_bind g0).imp (fun c S1 g1 J F1 H1 l1 o1 s1 => ?_) fun _ _ h => h)
  cases c with
  | false =>
    have g2 : G2 (g ρ S1) _ _ := g1
    exact iteF (hb J W F0 σ ρ S1 F1 H1 _ o1 (G2.imp g2 (fun b S2 g3 L F2 H2 l2 o2 s2 => g3 L F2 H2 (l1.trans l2) o2 (s1.trans s2)) fun _ _ h => KX.mono l1 s1 h))
  | true =>
    have g2 : G2 (SM.ret true S1) _ _ := g1
    exact iteT (g2 J F1 H1 l1 o1 s1)
theorem de2_if {t : TT} {ta tb : TE} {c : En → SM Bool} {f g : En → SM D} (hc : DT2 K E t c) (ha : DE2 K E ta f) (hb : DE2 K E tb g) : DE2 K E (tIf t ta tb) (zIf c f g) := fun I W F0 σ ρ S F H Q o g0 => by
  refine hc I W F0 σ ρ S F H _ o ((G2.of_bind g0).imp (fun c S1 g1 J F1 H1 l1 o1 s1 => ?_) fun _ _ h => h)
  cases c with
  | true =>
    have g2 : G2 (f ρ S1) _ _ := g1
    exact iteT (ha J W F0 σ ρ S1 F1 H1 _ o1 (G2.imp g2 (fun d S2 g3 L v F2 H2 l2 o2 s2 r2 => g3 L v F2 H2 (l1.trans l2) o2 (s1.trans s2) r2) fun _ _ h => KX.mono l1 s1 h))
  | false =>
    have g2 : G2 (g ρ S1) _ _ := g1
    exact iteF (hb J W F0 σ ρ S1 F1 H1 _ o1 (G2.imp g2 (fun d S2 g3 L v F2 H2 l2 o2 s2 r2 => g3 L v F2 H2 (l1.trans l2) o2 (s1.trans s2) r2) fun _ _ h => KX.mono l1 s1 h))
end
end DD

namespace DD
open PySem PySem.Spec PyProof.Rows L2

/-! ### statements over the store -/
inductive RO where
  | nx (ρ : En) (S : Store) | rt (d : D) (S : Store) | bk (ρ : En) (S : Store) | ct (ρ : En) (S : Store) | ex (x : Exc) (ρ : En) (S : Store) | bad
abbrev SO := Store → RO
def OkH (I : Iota) (K : PySem.W.Frag) (S : Store) (W F0 F H : Hp) : Prop := ∃ W1, OkB W1 F0 F H ∧ StOk I K S W F W1
theorem Ok2.okH {I : Iota} {K : PySem.W.Frag} {S : Store} {W F0 F H : Hp} {σ : L2.St} {ρ : En} (o : Ok2 I K S W F0 σ ρ F H) : OkH I K S W F0 F H := by
  obtain ⟨W1, b1, st⟩ := o
  exact ⟨W1, @Ok.toOkB I K W1 F0 σ ρ F H b1, st⟩
def Post2 (K : PySem.W.Frag) (X : WX) (W F0 : Hp) (E : Ends) (I : Iota) : RO → Prop
  | .nx ρ S => ∀ J σ F H, Iota.le I J → Ok2 J K S W F0 σ ρ F H → E.nx σ H
  | .rt d S => ∀ (J : Iota) v F H, Iota.le I J → OkH J K S W F0 F H → @Rp J K F v d → E.rt v H
  | .bk ρ S => ∀ J σ F H, Iota.le I J → Ok2 J K S W F0 σ ρ F H → E.bk σ H
  | .ct ρ S => ∀ J σ F H, Iota.le I J → Ok2 J K S W F0 σ ρ F H → E.ct σ H
  | .ex x ρ S => ∀ J σ F H cls dd, Iota.le I J → Ok2 J K S W F0 σ ρ F H → Xr J K F H x cls dd → X cls dd σ H
  | .bad => False
theorem Post2.mono {K : PySem.W.Frag} {X : WX} {W F0 : Hp} {E : Ends} {I J : Iota} {r : RO} (l : Iota.le I J) (h : Post2 K X W F0 E I r) : Post2 K X W F0 E J r := by
  cases r with
  | nx ρ S => exact fun L σ F H l2 => h L σ F H (l.trans l2)
  | rt d S => exact fun L v F H l2 => h L v F H (l.trans l2)
  | bk ρ S => exact fun L σ F H l2 => h L σ F H (l.trans l2)
  | ct ρ S => exact fun L σ F H l2 => h L σ F H (l.trans l2)
  | ex x ρ S => exact fun L σ F H c d l2 => h L σ F H c d (l.trans l2)
  | bad => exact h
def DS2 (K : PySem.W.Frag) (X : WX) (t : TS) (g : En → SO) : Prop := ∀ (I : Iota) (W F0 : Hp) (σ : L2.St) (ρ : En) (S : Store) (F H : Hp) (E : Ends), Ok2 I K S W F0 σ ρ F H → Post2 K X W F0 E I (g ρ S) → t E σ H
structure PS2 (X : Cx) (E : WX) (st : Stmt) (t : TS) (g : En → SO) : Prop where
  pe : PS X st t
  de : DS2 X.K E t g
structure PSs2 (X : Cx) (E : WX) (st : List Stmt) (t : TS) (g : En → SO) : Prop where
  pe : PSs X st t
  de : DS2 X.K E t g
/-- an answer first, an exception leaves -/
def sm {α : Type} (m : SM α) (ρ : En) (k : α → SO) : SO := fun S => match m S with
  | .ok a S' => k a S'
  | .err x S' => .ex x ρ S'
  | .bad => .bad
theorem sm_ok {α : Type} {m : SM α} {ρ : En} {k : α → SO} {S : Store} {K : PySem.W.Frag} {X : WX} {W F0 F H : Hp} {E : Ends} {I : Iota} {σ : L2.St} (h : Post2 K X W F0 E I (sm m ρ k S)) (o : Ok2 I K S W F0 σ ρ F H) (hX : ∀ x S' J cls dd F' H', Iota.le I J → Ok2 J K S' W F0 σ ρ F' H' → Xr J K F' H' x cls dd → m S = .err x S' → X cls dd σ H' := by intros; first | assumption | skip) :
    G2 (m S) (fun a S' => Post2 K X W F0 E I (k a S')) (KX K X I W F0 σ ρ F) := by
  unfold sm at h
  cases e : m S with
  | ok a S' => rw [e] at h; exact h
  | err x S' =>
    rw [e] at h
    exact fun J cls dd F' H' l o' s r => h J σ F' H' cls dd l o' r
  | bad => rw [e] at h; exact h
theorem sm_g {α : Type} {m : SM α} {ρ : En} {k : α → SO} {S : Store} {K : PySem.W.Frag} {X : WX} {W F0 F : Hp} {E : Ends} {I : Iota} {σ : L2.St} (h : Post2 K X W F0 E I (sm m ρ k S)) :
    G2 (m S) (fun a S' => Post2 K X W F0 E I (k a S')) (KX K X I W F0 σ ρ F) := by
  unfold sm at h
  cases e : m S with
  | ok a S' => rw [e] at h; exact h
  | err x S' =>
    rw [e] at h
    exact fun J cls dd F' H' l o' s r => h J σ F' H' cls dd l o' r
  | bad => rw [e] at h; exact h
def yNext : En → SO := fun ρ S => .nx ρ S
def ySeq (f g : En → SO) : En → SO := fun ρ S => match f ρ S with
  | .nx ρ' S' => g ρ' S'
  | o => o
def yRet (f : En → SM D) : En → SO := fun ρ => sm (f ρ) ρ fun d S => .rt d S
def yRetN : En → SO := fun _ S => .rt .non S
def yBreak : En → SO := fun ρ S => .bk ρ S
def yCont : En → SO := fun ρ S => .ct ρ S
def yIf (c : En → SM Bool) (f g : En → SO) : En → SO := fun ρ => sm (c ρ) ρ fun b => if b = true then f ρ else g ρ
def ySet (i : Nat) (f : En → SM D) : En → SO := fun ρ => sm (f ρ) ρ fun d S => .nx (ρ.set i (.fz d)) S
def yDrop (f : En → SM D) : En → SO := fun ρ => sm (f ρ) ρ fun _ S => .nx ρ S
/-- a data layer's statement -/
def yLift (g : En → R Out) : En → SO := fun ρ S => match g ρ with
  | .ok (.nx ρ') => .nx ρ' S
  | .ok (.rt d) => .rt d S
  | .ok (.bk ρ') => .bk ρ' S
  | .ok (.ct ρ') => .ct ρ' S
  | _ => .bad
def yWhile (c : En → SM Bool) (body : En → SO) : Nat → En → SO
  | 0 => fun _ _ => .bad
  | n + 1 => fun ρ => sm (c ρ) ρ fun b => if b = true then fun S => match body ρ S with
      | .nx ρ' S' => yWhile c body n ρ' S'
      | .ct ρ' S' => yWhile c body n ρ' S'
      | .bk ρ' S' => .nx ρ' S'
      | o => o
    else fun S => .nx ρ S
theorem Ok2.setF {I : Iota} {K : PySem.W.Frag} {S : Store} {W F0 F H : Hp} {σ : L2.St} {ρ : En} (o : Ok2 I K S W F0 σ ρ F H) (i : Nat) {v : V} {d : D} (r : @Rp I K F v d) : Ok2 I K S W F0 (σ.set i (some v)) (ρ.set i (.fz d)) F H := by
  obtain ⟨W1, b1, st⟩ := o
  exact ⟨W1, @Ok.setF I K W1 F0 F H σ ρ b1 i v d r, st⟩
section
variable {X : Cx} {E : WX} {pos : Pos} {st : Stmt} {rest : List Stmt} {t u : TS} {f g : En → SO} {e : Expr} {te : TE} {fe : En → SM D}
theorem pss2_nil : PSs2 X E [] tNext yNext := ⟨pss_nil, fun I W F0 σ ρ S F H D o q => q I σ F H (Iota.le.refl I) o⟩
theorem pss2_one (h : PS2 X E st t g) : PSs2 X E [st] t g := ⟨pss_one h.pe, h.de⟩
theorem pss2_cons (h1 : PS2 X E st t f) (h2 : PSs2 X E rest u g) : PSs2 X E (st :: rest) (tSeq t u) (ySeq f g) := by
  refine ⟨pss_cons h1.pe h2.pe, fun I W F0 σ ρ S F H D o q => ?_⟩
  refine h1.de I W F0 σ ρ S F H { D with nx := u D } o ?_
  unfold ySeq at q
  cases e1 : f ρ S with
  | nx ρ' S' =>
    rw [e1] at q
    exact fun J σ' F' H' l o' => h2.de J W F0 σ' ρ' S' F' H' D o' (Post2.mono l q)
  | rt d S' => rw [e1] at q; exact q
  | bk ρ' S' => rw [e1] at q; exact q
  | ct ρ' S' => rw [e1] at q; exact q
  | ex x ρ' S' => rw [e1] at q; exact q
  | bad => rw [e1] at q; exact q
theorem ps2_pass : PS2 X E (.Pass pos) tNext yNext := ⟨ps_pass, fun I W F0 σ ρ S F H D o q => q I σ F H (Iota.le.refl I) o⟩
theorem ps2_break : PS2 X E (.Break pos) tBreak yBreak := ⟨ps_break, fun I W F0 σ ρ S F H D o q => q I σ F H (Iota.le.refl I) o⟩
theorem ps2_continue : PS2 X E (.Continue pos) tCont yCont := ⟨ps_continue, fun I W F0 σ ρ S F H D o q => q I σ F H (Iota.le.refl I) o⟩
theorem ps2_ret (h : PE2 X E e te fe) : PS2 X E (.Return (some e) pos) (tRet te) (yRet fe) := by
  refine ⟨ps_ret h.pe, fun I W F0 σ ρ S F H D o q => ?_⟩
  exact h.de I W F0 σ ρ S F H _ o ((sm_g q).imp (fun d S1 g1 J v F1 H1 l1 o1 s1 r1 => g1 J v F1 H1 l1 o1.okH r1) fun _ _ h => h)
theorem ps2_retN : PS2 X E (.Return none pos) tRetN yRetN := ⟨ps_retN, fun I W F0 σ ρ S F H D o q => q I _ F H (Iota.le.refl I) o.okH ((@rp_non I X.K F _).mpr rfl)⟩
theorem ps2_if {c : Expr} {a b : List Stmt} {tc : TT} {fc : En → SM Bool} (hc : PT2 X E c tc fc) (ha : PSs2 X E a t f) (hb : PSs2 X E b u g) : PS2 X E (.If c a b pos) (tIfS tc t u) (yIf fc f g) := by
  refine ⟨ps_if hc.pe ha.pe hb.pe, fun I W F0 σ ρ S F H D o q => ?_⟩
  refine hc.de I W F0 σ ρ S F H _ o ((sm_g q).imp (fun k S1 g1 J F1 H1 l1 o1 s1 => ?_) fun _ _ h => h)
  cases k with
  | true => exact iteT (ha.de J W F0 σ ρ S1 F1 H1 D o1 (Post2.mono l1 g1))
  | false => exact iteF (hb.de J W F0 σ ρ S1 F1 H1 D o1 (Post2.mono l1 g1))
theorem ps2_set {i : Nat} {x : Str} {pos' : Pos} (hN : X.N.Nodup) (h : PE2 X E e te fe) (hi : X.N[i]? = some x := by rfl) (hx : Loc X.env.scope x := by first | exact Or.inl rfl | exact Or.inr rfl) (hs : swapsWith e (some (.Name x pos')) pos.line X.env = pure false := by rfl) (hf : X.fn x = true ∨ X.env.scope.names.lookup x = some .local := by first | exact .inl rfl | exact .inr rfl | assumption) :
    PS2 X E (.Assign [.Name x pos'] e pos) (tAsg te (gName i)) (ySet i fe) := by
  refine ⟨ps_set hN hi hx h.pe hs hf, fun I W F0 σ ρ S F H D o q => ?_⟩
  exact h.de I W F0 σ ρ S F H _ o ((sm_g q).imp (fun d S1 g1 J v F1 H1 l1 o1 s1 r1 => g1 J _ F1 H1 l1 (o1.setF i r1)) fun _ _ h => h)
theorem ps2_expr (h : PE2 X E e te fe) (hs : swapsWith e none pos.line X.env = pure false := by rfl) : PS2 X E (.Expr e pos) (tDrop te) (yDrop fe) := by
  refine ⟨ps_expr h.pe hs, fun I W F0 σ ρ S F H D o q => ?_⟩
  exact h.de I W F0 σ ρ S F H _ o ((sm_g q).imp (fun d S1 g1 J v F1 H1 l1 o1 s1 r1 => g1 J σ F1 H1 l1 o1) fun _ _ h => h)
theorem ps2_lift {gl : En → R Out} (h : ∀ I : Iota, @PSD I X st t gl) : PS2 X E st t (yLift gl) := by
  refine ⟨@PSD.pe ⟨[]⟩ X st t gl (h ⟨[]⟩), fun I W F0 σ ρ S F H D o q => ?_⟩
  obtain ⟨W1, b1, s1⟩ := o
  have b0 := @Ok.toOkB I X.K W1 F0 σ ρ F H b1
  have after : ∀ {σ' : L2.St} {ρ' : En} {F' H' : Hp}, @Ok I X.K W1 F σ' ρ' F' H' → Ok2 I X.K S W F0 σ' ρ' F' H' := fun {σ' ρ' F' H'} o2 =>
    ⟨W1, @Ok.rebase I X.K W1 F0 F' H' σ' ρ' F H o2 b0, s1.keep o2 (@Ok.toOkB I X.K W1 F σ' ρ' F' H' o2).ext⟩
  unfold yLift at q
  cases hg : gl ρ with
  | err x => rw [hg] at q; exact q.elim
  | bad => rw [hg] at q; exact q.elim
  | ok out =>
    rw [hg] at q
    refine @PSD.de I X st t gl (h I) W1 F σ ρ F H D out (@Ok.self I X.K W1 F0 F H σ ρ b1) hg ?_
    cases out with
    | nx ρ' => exact fun σ' F' H' o2 => q I σ' F' H' (Iota.le.refl I) (after o2)
    | bk ρ' => exact fun σ' F' H' o2 => q I σ' F' H' (Iota.le.refl I) (after o2)
    | ct ρ' => exact fun σ' F' H' o2 => q I σ' F' H' (Iota.le.refl I) (after o2)
    | rt d =>
      refine fun v F' H' o2 r => q I v F' H' (Iota.le.refl I) ⟨W1, o2.rebase b0, s1.keepB o2⟩ r
end
end DD

namespace DD
open PySem PySem.Spec PyProof.Rows L2

/-! ### a def over the store -/
def runS (n k : Nat) (body : En → SO) : List D → SM D := fun ds S => if (ds.length == n) = true then (match body (ds.map Sl.fz ++ List.replicate k .un) S with
  | .rt d S' => .ok d S'
  | .nx _ S' => .ok .non S'
  | .ex x _ S' => .err x S'
  | _ => .bad) else .bad
/-- its promise: from data and store to data and store, or an exception and a store -/
def spS (K : PySem.W.Frag) (m : List D → SM D) : Sp := fun vs H Q E => ∃ (I : Iota) (S : Store) (W F : Hp) (ds : List D), Same F H ∧ StOk I K S W F H ∧ @Rps I K F vs ds ∧
  G2 (m ds S) (fun d S' => ∀ (J : Iota) v F' H', Iota.le I J → OkH J K S' W F F' H' → @Rp J K F' v d → Q v H') (fun x S' => ∀ (J : Iota) cls dd F' H', Iota.le I J → OkH J K S' W F F' H' → Xr J K F' H' x cls dd → E cls dd H')
section
variable {P : Program} {w : World} {K : PySem.W.Frag} {mg : Str → Option Value} {base : Heap}
theorem spS_len {K : PySem.W.Frag} {n k : Nat} {g : En → SO} {vs : List V} {H : Hp} {Q : VK} {E : XK} (h : spS K (runS n k g) vs H Q E) : vs.length = n := by
  obtain ⟨I, S, W, F, ds, _, _, r, q⟩ := h
  rw [@Rps.length I K F vs ds r]
  unfold runS at q
  by_cases hn : (ds.length == n) = true
  · exact beq_iff_eq.mp hn
  · rw [if_neg hn] at q; exact q.elim
theorem Fun.okS {x qual : Str} {st : Stmt} {f : Addr} {fd : FuncData} {N ps : List Str} {k : Nat} {g : En → SO} (F : L2.Fun K x qual st f fd) (S : FnScope N ps (defScope st))
    (hbody : ∀ (cdv : Value) (A : Around) (outer : List Env) (s : Shared) (H : Hp) (E : XK), Room k (A.deeper (envOfC qual (defScope st) s.heap.objs.size f cdv)) →
      ∃ t, PSs2 (cxOf (L2.CX P w) P w K mg base N qual (defScope st) f cdv A outer s H E) (fun cls d _ H' => E cls d H') (defBody st) t g) : FnOk P w K mg base (L2.CX P w) (k + 1) f fd ps (spS K (runS ps.length (N.length - ps.length) g)) := by
  refine F.okX S (fun vs H Q E h => spS_len h) (fun cdv A outer s H vs Q E hr h => ?_)
  have hlen := spS_len h
  obtain ⟨I, S0, W, F1, ds, sF, st0, r, q⟩ := h
  have hl : ds.length = ps.length := by rw [← hlen]; exact (@Rps.length I K F1 vs ds r).symm
  obtain ⟨t, ht⟩ := hbody cdv A outer s H E hr
  refine ⟨t, ht.pe, ?_⟩
  have o : Ok2 I K S0 W F1 (L2.start N vs) (ds.map Sl.fz ++ List.replicate (N.length - ps.length) .un) F1 H := ⟨H, @ok_start I K N vs ds F1 H (N.length - ps.length) sF r (by rw [hl]), st0⟩
  refine ht.de I W F1 _ _ S0 F1 H _ o ?_
  unfold runS at q
  rw [if_pos (beq_iff_eq.mpr hl)] at q
  cases e : g (ds.map Sl.fz ++ List.replicate (N.length - ps.length) .un) S0 with
  | nx ρ' S' =>
    rw [e] at q
    exact fun J σ F' H' l o' => q J _ F' H' l o'.okH ((@rp_non J K F' _).mpr rfl)
  | rt d S' =>
    rw [e] at q
    exact fun J v F' H' l o' r' => q J v F' H' l o' r'
  | bk ρ' S' => rw [e] at q; exact q.elim
  | ct ρ' S' => rw [e] at q; exact q.elim
  | ex x ρ' S' =>
    rw [e] at q
    exact fun J σ F' H' cls dd l o' r' => q J cls dd F' H' l o'.okH r'
  | bad => rw [e] at q; exact q.elim
end
/-- the heap that a callee must leave alone: all but the caller's store -/
def callW (W1 W H : Hp) : Hp := fun b => match W1 b, W b with
  | some _, none => none
  | _, _ => H b
/-- .. and what the caller keeps of the callee's -/
def backW (W1 H V : Hp) : Hp := fun b => match H b, W1 b with
  | some _, none => none
  | _, _ => V b
section
variable {I : Iota} {K : PySem.W.Frag} {S : Store} {W F0 F H : Hp} {σ : L2.St} {ρ : En}
theorem callW_none {W1 W H : Hp} {b : Addr} (h : callW W1 W H b = none) (sw : Same W1 H) (w1 : Same W W1) : H b = none ∨ ((∃ x, W1 b = some x) ∧ W b = none) := by
  unfold callW at h
  cases e1 : W1 b with
  | none => rw [e1] at h; exact .inl h
  | some x =>
    cases e2 : W b with
    | none => exact .inr ⟨⟨x, rfl⟩, rfl⟩
    | some y =>
      rw [e1, e2] at h
      exact .inl h
theorem Ok2.call (o : Ok2 I K S W F0 σ ρ F H) : ∃ Wc : Hp, Same F H ∧ StOk I K S Wc F H ∧
    ∀ (J : Iota) (S' : Store) (F' H' : Hp), Iota.le I J → OkH J K S' Wc F F' H' → Ok2 J K S' W F0 σ ρ F' H' ∧ Same F F' := by
  obtain ⟨W1, b1, st⟩ := o
  have b0 := @Ok.toOkB I K W1 F0 σ ρ F H b1
  have cs : ∀ b x, W1 b = some x → W b = none → callW W1 W H b = none := fun b x e1 e2 => by unfold callW; rw [e1, e2]
  have cn : ∀ b, W1 b = none → callW W1 W H b = H b := fun b e => by unfold callW; rw [e]
  have cw : ∀ b y, W b = some y → callW W1 W H b = H b := fun b y e => by
    unfold callW
    rw [st.sub b y e, e]
  have sub : Same (callW W1 W H) H := fun b x e => by
    unfold callW at e
    split at e
    · cases e
    · exact e
  have frc : ∀ (b : Addr) (x : HO), H b = some x → callW W1 W H b = none → NT x ∧ F b = none := fun b x e c => by
    rcases callW_none c b0.wld st.sub with h | ⟨⟨y, h⟩, hw⟩
    · rw [h] at e; cases e
    · have e' := b0.wld b y h
      rw [e] at e'
      cases e'
      exact st.fr b x h hw
  refine ⟨callW W1 W H, b0.sub, ⟨st.len, st.nd, sub, frc, fun n ob a h1 h2 => ?_⟩, fun J S' F' H' l oh => ?_⟩
  · obtain ⟨w, f, q⟩ := st.obj n ob a h1 h2
    obtain ⟨x, e, _⟩ := q.there
    refine ⟨cs a x e w, f, ?_⟩
    cases ob with
    | lst ds => obtain ⟨vs, e, r⟩ := q; exact ⟨vs, b0.wld _ _ e, r⟩
    | dK ks ds => obtain ⟨vs, e, r⟩ := q; exact ⟨vs, b0.wld _ _ e, r⟩
    | dT ks ds => obtain ⟨vs, e, r⟩ := q; exact ⟨vs, b0.wld _ _ e, r⟩
    | ins C ns ds => obtain ⟨dx, vs, e, e2, w2, r⟩ := q; exact ⟨dx, vs, b0.wld _ _ e, b0.wld _ _ e2, cs dx _ e2 w2, r⟩
  · obtain ⟨V, bh, sh⟩ := oh
    have bn : ∀ b x, W1 b = some x → backW W1 H V b = V b := fun b x e => by unfold backW; rw [e]; cases H b <;> rfl
    have bnew : ∀ b, H b = none → backW W1 H V b = V b := fun b e => by unfold backW; rw [e]
    have bsub : Same (backW W1 H V) V := fun b x e => by
      unfold backW at e
      split at e
      · cases e
      · exact e
    have keepA : ∀ b x, V b = some x → callW W1 W H b = none → backW W1 H V b = some x := fun b x e c => by
      rcases callW_none c b0.wld st.sub with h | ⟨⟨y, h⟩, _⟩
      · rw [bnew b h]; exact e
      · rw [bn b y h]; exact e
    have wn : ∀ b, callW W1 W H b = none → W b = none := fun b c => by
      cases e : W b with
      | none => rfl
      | some y =>
        rw [cw b y e, b0.wld b y (st.sub b y e)] at c
        cases c
    refine ⟨⟨backW W1 H V, ?_, ?_⟩, bh.ext⟩
    · refine ⟨⟨bh.sub, bsub.trans bh.wld, b0.ext.trans bh.ext, fun b x nt e1 e2 => ?_⟩, @Ok.len I K W1 F0 σ ρ F H b1, fun i x sl h1 h2 => ?_, @Ok.dist I K W1 F0 σ ρ F H b1⟩
      · have hV := bsub b x e1
        have hF : F b = none := by
          cases hw : W1 b with
          | some y =>
            cases hWb : W b with
            | none => exact (st.fr b y hw hWb).2
            | some z =>
              have h1 := sh.sub b y (by rw [cw b z hWb]; exact b0.wld b y hw)
              rw [hV] at h1
              cases h1
              exact b0.new b x nt hw e2
          | none =>
            cases hh : H b with
            | none => exact Same.free b0.sub hh
            | some y =>
              have : backW W1 H V b = none := by unfold backW; rw [hh, hw]
              rw [this] at e1; cases e1
        exact bh.new b x nt hV hF
      · have q := @Ok.slots I K W1 F0 σ ρ F H b1 i x sl h1 h2
        cases sl with
        | un => trivial
        | fz d =>
          obtain ⟨v, e, r⟩ := q
          exact ⟨v, e, @Rp.mono J K F F' bh.ext v d (Rp.ext l r)⟩
        | ow ds =>
          obtain ⟨p, vs, e, h, f, w1, r⟩ := q
          have hc : callW W1 W H p = some (.lst vs) := by rw [cn p w1]; exact h
          have hV := sh.sub p _ hc
          refine ⟨p, vs, e, bh.wld _ _ hV, bh.new p _ NT.lst hV f, ?_, @Rps.mono J K F F' bh.ext vs ds (Rps.ext l r)⟩
          unfold backW
          rw [h, w1]
    · refine ⟨sh.len, sh.nd, fun b y e => ?_, fun b y e w => ?_, fun n ob a h1 h2 => ?_⟩
      · rw [bn b y (st.sub b y e)]
        exact sh.sub b y (by rw [cw b y e]; exact b0.wld b y (st.sub b y e))
      · refine sh.fr b y (bsub b y e) ?_
        cases h1 : W1 b with
        | some z => exact cs b z h1 w
        | none =>
          cases h2 : H b with
          | none => rw [cn b h1, h2]
          | some z =>
            have : backW W1 H V b = none := by unfold backW; rw [h2, h1]
            rw [this] at e; cases e
      · obtain ⟨c, f, q⟩ := sh.obj n ob a h1 h2
        refine ⟨wn a c, f, ?_⟩
        cases ob with
        | lst ds => obtain ⟨vs, e, r⟩ := q; exact ⟨vs, keepA _ _ e c, r⟩
        | dK ks ds => obtain ⟨vs, e, r⟩ := q; exact ⟨vs, keepA _ _ e c, r⟩
        | dT ks ds => obtain ⟨vs, e, r⟩ := q; exact ⟨vs, keepA _ _ e c, r⟩
        | ins C ns ds => obtain ⟨dx, vs, e, e2, w2, r⟩ := q; exact ⟨dx, vs, keepA _ _ e c, keepA _ _ e2 w2, wn dx w2, r⟩
end
section
variable {X : Cx} {W : WX} {k : Nat} {f : Addr} {fd : FuncData} {ps : List Str} {m : List D → SM D} {x : Str} {p pos : Pos} {e : Expr} {es : List Expr} {t : TA} {fa : En → SM (List D)}
/-- a call of such a def -/
theorem pe2_call (G : FnOk X.prog X.w X.K X.mg X.base (L2.CX X.prog X.w) k f fd ps (spS X.K m)) (tk : Takes X W) (hr : Room k X.A) (hm : X.mg x = some (.ref f)) (hk : PySem.W.keepIn X.K (.ref f) = true) (hb : Binds X.K fd ps []) (ha : PA2 X W (e :: es) t fa) (hg : Gl X x := by rfl)
    (hdb : (x == ("__debug__" : Str)) = false := by decide) (he : starEach (e :: es) X.env = (false, eval e X.env) :: starEach es X.env := by rfl) (hpl : (backTo pos (starEach es X.env)).any (·.1) = false := by rfl) :
    PE2 X W (.Call (.Name x p) (e :: es) [] pos) (tCallS (spS X.K m) (WE W) t) (fun ρ => fa ρ >>= m) := by
  refine ⟨pe_callS G hr hg hm hk hb (fun σ => passAt tk σ) ha.pe hdb he hpl, fun I V F0 σ ρ S F H Q o g0 => ?_⟩
  refine ha.de I V F0 σ ρ S F H _ o ((G2.of_bind g0).imp (fun ds S1 g1 J vs F1 H1 l1 o1 s1 r1 => ?_) fun _ _ h => h)
  obtain ⟨Wc, sF, st, back⟩ := o1.call
  refine ⟨J, S1, Wc, F1, ds, sF, st, r1, g1.imp (fun d S2 g2 L v F2 H2 l2 oh r2 => ?_) fun x S2 g2 L cls dd F2 H2 l2 oh r2 => ?_⟩
  · obtain ⟨o2, s2⟩ := back L S2 F2 H2 l2 oh
    exact g2 L v F2 H2 (l1.trans l2) o2 (s1.trans s2) r2
  · obtain ⟨o2, s2⟩ := back L S2 F2 H2 l2 oh
    exact g2 L cls dd F2 H2 (l1.trans l2) o2 (s1.trans s2) r2
end
end DD

namespace DD
open PySem PySem.Spec PyProof.Rows L2

/-! ### what reads and writes the store's lists -/
theorem lift_ne {α : Type} {r : R α} {S S' : Store} {x : Exc} : SM.lift r S ≠ .err x S' := by
  unfold SM.lift
  cases r <;> exact fun h => nomatch h
theorem G2.noX {α : Type} {r : RS α} {P : α → Store → Prop} {X Y : Exc → Store → Prop} (h : G2 r P X) (ne : ∀ x S, r ≠ .err x S) : G2 r P Y := by
  cases r with
  | ok a S => exact h
  | err x S => exact absurd rfl (ne x S)
  | bad => exact h
/-- a two-place rule over the store -/
structure DQ2 (K : PySem.W.Frag) (r : L2.R2) (g : D → D → SM D) : Prop where
  run : ∀ (I : Iota) (W F0 : Hp) (σ : L2.St) (ρ : En) (S : Store) (F H : Hp) (x y : V) (dx dy : D) (Q : VK), Ok2 I K S W F0 σ ρ F H → @Rp I K F x dx → @Rp I K F y dy →
    G2 (g dx dy S) (fun d S' => ∀ (J : Iota) v F' H', Iota.le I J → Ok2 J K S' W F0 σ ρ F' H' → Same F F' → @Rp J K F' v d → Q v H') (fun _ _ => False) → r x y H Q
  ne : ∀ x y S e S', g x y S ≠ .err e S'
/-- a built-in call over the store -/
structure DC2 (K : PySem.W.Frag) (r : List V → Hp → VK → Prop) (g : List D → SM D) : Prop where
  run : ∀ (I : Iota) (W F0 : Hp) (σ : L2.St) (ρ : En) (S : Store) (F H : Hp) (vs : List V) (ds : List D) (Q : VK), Ok2 I K S W F0 σ ρ F H → @Rps I K F vs ds →
    G2 (g ds S) (fun d S' => ∀ (J : Iota) v F' H', Iota.le I J → Ok2 J K S' W F0 σ ρ F' H' → Same F F' → @Rp J K F' v d → Q v H') (fun _ _ => False) → r vs H Q
  ne : ∀ ds S e S', g ds S ≠ .err e S'
def zOp (g : D → D → SM D) (a b : En → SM D) : En → SM D := fun ρ => a ρ >>= fun x => b ρ >>= fun y => g x y
section
variable {K : PySem.W.Frag} {E : WX}
theorem dq2_lift {r : L2.R2} {g : D → D → R D} (hr : ∀ I : Iota, @DR2 I K r g) : DQ2 K r (fun x y => SM.lift (g x y)) := ⟨fun I W F0 σ ρ S F H x y dx dy Q o rx ry g0 => by
  obtain ⟨W1, b1, st⟩ := o
  obtain ⟨d, e, k⟩ := g0.of_lift
  exact hr I W1 F σ ρ F H x y dx dy d Q (@Ok.self I K W1 F0 F H σ ρ b1) rx ry e fun u F3 H3 o3 s3 r3 => k I u F3 H3 (Iota.le.refl I) (Ok2.after b1 st o3 s3) s3 r3, fun _ _ _ _ _ => lift_ne⟩
theorem dc2_lift {r : List V → Hp → VK → Prop} {g : List D → R D} (hr : ∀ I : Iota, @DCl I K r g) : DC2 K r (fun ds => SM.lift (g ds)) := ⟨fun I W F0 σ ρ S F H vs ds Q o rs g0 => by
  obtain ⟨W1, b1, st⟩ := o
  obtain ⟨d, e, k⟩ := g0.of_lift
  exact hr I W1 F σ ρ F H vs ds d Q (@Ok.self I K W1 F0 F H σ ρ b1) rs e fun u F3 H3 o3 s3 r3 => k I u F3 H3 (Iota.le.refl I) (Ok2.after b1 st o3 s3) s3 r3, fun _ _ _ _ => lift_ne⟩
theorem de2_op {r : L2.R2} {g : D → D → SM D} {ta tb : TE} {a b : En → SM D} (hr : DQ2 K r g) (ha : DE2 K E ta a) (hb : DE2 K E tb b) : DE2 K E (tOp r ta tb) (zOp g a b) := fun I W F0 σ ρ S F H Q o g0 => by
  refine ha I W F0 σ ρ S F H _ o ((G2.of_bind g0).imp (fun x S1 g1 J v F1 H1 l1 o1 s1 r1 => ?_) fun _ _ h => h)
  refine hb J W F0 σ ρ S1 F1 H1 _ o1 ((G2.of_bind g1).imp (fun y S2 g2 L w F2 H2 l2 o2 s2 r2 => ?_) fun _ _ h => h.mono l1 s1)
  refine hr.run L W F0 σ ρ S2 F2 H2 v w x y Q o2 (@Rp.mono L K F1 F2 s2 v x (Rp.ext l2 r1)) r2 ((g2.noX (Y := fun _ _ => False) fun e S' => hr.ne x y S2 e S').imp (fun d S3 g3 M u F3 H3 l3 o3 s3 r3 => ?_) fun _ _ h => h)
  exact g3 M u F3 H3 ((l1.trans l2).trans l3) o3 ((s1.trans s2).trans s3) r3
theorem de2_callS {r : List V → Hp → VK → Prop} {g : List D → SM D} {t : TA} {f : En → SM (List D)} (hr : DC2 K r g) (h : DA2 K E t f) : DE2 K E (tCB r t) (fun ρ => f ρ >>= g) := fun I W F0 σ ρ S F H Q o g0 => by
  refine h I W F0 σ ρ S F H _ o ((G2.of_bind g0).imp (fun ds S1 g1 J vs F1 H1 l1 o1 s1 r1 => ?_) fun _ _ h => h)
  exact hr.run J W F0 σ ρ S1 F1 H1 vs ds Q o1 r1 ((g1.noX (Y := fun _ _ => False) fun e S' => hr.ne ds S1 e S').imp (fun d S3 g3 M u F3 H3 l3 o3 s3 r3 => g3 M u F3 H3 (l1.trans l3) o3 (s1.trans s3) r3) fun _ _ h => h)
/-- the items of a list of the store -/
def sLst (S : Store) (n : Nat) : Option (List D) := match S[n]? with
  | some (.lst ds) => some ds
  | _ => none
theorem sLst_at {I : Iota} {S : Store} {W F0 F H : Hp} {σ : L2.St} {ρ : En} (o : Ok2 I K S W F0 σ ρ F H) {n : Nat} {ds : List D} {v : V} (h : sLst S n = some ds) (r : @Rp I K F v (.ref n)) : ∃ a vs, v = .ref a ∧ I.at_[n]? = some a ∧ H a = some (.lst vs) ∧ @Rps I K F vs ds ∧ S[n]? = some (.lst ds) := by
  obtain ⟨a, e, ha⟩ := (@rp_ref I K F v n).mp r
  unfold sLst at h
  split at h
  · rename_i ds' hs
    cases h
    obtain ⟨vs, hv, rv⟩ := o.get hs ha
    exact ⟨a, vs, e, ha, hv, rv, hs⟩
  · cases h
def ixS (x y : D) : SM D := fun S => match x with
  | .ref n => (match sLst S n with
    | some ds => SM.lift (dIx (.lst ds) y) S
    | none => .bad)
  | x => SM.lift (dIx x y) S
theorem dq2_ix : DQ2 K (rIx K) ixS := by
  refine ⟨fun I W F0 σ ρ S F H x y dx dy Q o rx ry g0 => ?_, fun x y S e S' => ?_⟩
  · by_cases hx : ∃ n, dx = .ref n
    · obtain ⟨n, rfl⟩ := hx
      have g1 : G2 (match sLst S n with
        | some ds => SM.lift (dIx (.lst ds) dy) S
        | none => .bad) _ _ := g0
      cases hl : sLst S n with
      | none => rw [hl] at g1; exact g1.elim
      | some ds =>
        rw [hl] at g1
        obtain ⟨d, e, k⟩ := g1.of_lift
        obtain ⟨a, vs, rfl, ha, hv, rv, _⟩ := sLst_at o hl rx
        cases dy <;> first | (cases e; done) | skip
        rename_i i
        cases (@rp_int I K F y i).mp ry
        obtain ⟨v, h1, h2⟩ := @rps_at I K F vs ds i d rv (atR_ok e)
        exact .inl ⟨a, vs, _, v, rfl, rfl, SqL.of hv, h1, k I v F H (Iota.le.refl I) o (Same.refl _) h2⟩
    · have e : ixS dx dy S = SM.lift (dIx dx dy) S := by
        cases dx <;> first | rfl | exact absurd ⟨_, rfl⟩ hx
      rw [e] at g0
      exact (dq2_lift (K := K) (r := rIx K) (g := dIx) fun I => @dr_ix I K).run I W F0 σ ρ S F H x y dx dy Q o rx ry g0
  · unfold ixS
    split
    · split
      · exact lift_ne
      · exact fun h => nomatch h
    · exact lift_ne
end
end DD

namespace DD
open PySem PySem.Spec PyProof.Rows L2

/-! ### lists of the store: len, append, x[i] = e -/
def lenS : List D → SM D
  | [.ref n] => fun S => match sLst S n with
    | some ds => .ok (.int ds.length) S
    | none => .bad
  | ds => SM.lift (dLen ds)
theorem dc2_len {K : PySem.W.Frag} : DC2 K (rLen K) lenS := by
  refine ⟨fun I W F0 σ ρ S F H vs ds Q o rs g0 => ?_, fun ds S e S' => ?_⟩
  · by_cases hx : ∃ n, ds = [.ref n]
    · obtain ⟨n, rfl⟩ := hx
      have g1 : G2 (match sLst S n with
        | some ds => RS.ok (D.int ds.length) S
        | none => .bad) _ _ := g0
      obtain ⟨v, ws, rfl, rv, rn⟩ := @Rps.of_cons I K F vs (.ref n) [] rs
      cases @Rps.of_nil I K F ws rn
      cases hl : sLst S n with
      | none => rw [hl] at g1; exact g1.elim
      | some ds =>
        rw [hl] at g1
        obtain ⟨a, xs, rfl, ha, hv, rx, _⟩ := sLst_at o hl rv
        exact ⟨_, xs.length, rfl, .inl ⟨xs, SqL.of hv, rfl⟩, g1 I _ F H (Iota.le.refl I) o (Same.refl _) ((@rp_int I K F _ _).mpr (by rw [@Rps.length I K F xs ds rx]))⟩
    · have e : lenS ds S = SM.lift (dLen ds) S := by
        unfold lenS
        split
        · exact absurd ⟨_, rfl⟩ hx
        · rfl
      rw [e] at g0
      exact (dc2_lift (K := K) (r := rLen K) (g := dLen) fun I => @dc_len I K).run I W F0 σ ρ S F H vs ds Q o rs g0
  · unfold lenS
    split
    · split <;> exact fun h => nomatch h
    · exact lift_ne
/-- it is a list of the store -/
def chkL (d : D) : SM Unit := fun S => match d with
  | .ref n => (match sLst S n with
    | some _ => .ok () S
    | none => .bad)
  | _ => .bad
def addS (x d : D) (k : Store → RO) : SO := fun S => match x with
  | .ref n => (match sLst S n with
    | some ds => if ds.length < 16777216 then k (S.set n (.lst (ds ++ [d]))) else .bad
    | none => .bad)
  | _ => .bad
def yApp (o f : En → SM D) : En → SO := fun ρ => sm (o ρ) ρ fun x => sm (chkL x) ρ fun _ => sm (f ρ) ρ fun d => addS x d (.nx ρ)
def putS (x j d : D) (k : Store → RO) : SO := fun S => match x, j with
  | .ref n, .int j => (match sLst S n with
    | some ds => (match ixN ds.length j with
      | some m => k (S.set n (.lst (ds.set m d)))
      | none => .bad)
    | none => .bad)
  | _, _ => .bad
def yPut (o k f : En → SM D) : En → SO := fun ρ => sm (f ρ) ρ fun d => sm (o ρ) ρ fun x => sm (k ρ) ρ fun j => putS x j d (.nx ρ)
section
variable {X : Cx} {E : WX} {pos : Pos} {e o k : Expr} {te to tk : TE} {fe fo fk : En → SM D}
theorem chk_at {K : PySem.W.Frag} {I : Iota} {S : Store} {d : D} {P : Unit → Store → Prop} {Y : Exc → Store → Prop} (h : G2 (chkL d S) P Y) : ∃ n ds, d = .ref n ∧ sLst S n = some ds ∧ P () S := by
  unfold chkL at h
  split at h
  · rename_i n
    cases hl : sLst S n with
    | none => rw [hl] at h; exact h.elim
    | some ds => rw [hl] at h; exact ⟨n, ds, rfl, hl, h⟩
  · exact h.elim
theorem ps2_append {apos cpos : Pos} (ho : PE2 X E o to fo) (he : PE2 X E e te fe)
    (hbase : attributeBase o "append" X.env (eval o X.env) = eval o X.env := by rfl)
    (hfew : ((backTo cpos (starEach [e] X.env)).all (fun x => !x.1) && (backToKw cpos (keywordEach [] X.env)).all (fun x => x.1.isSome)
      && decide (([e] : List Expr).length + ([] : List Keyword).length + (if ([] : List Keyword).isEmpty then 0 else 1) < 30)) = true := by rfl)
    (hline : (apos.endLine == cpos.line) = true := by rfl) (hst : starEach [e] X.env = (false, eval e X.env) :: starEach [] X.env := by rfl) (hplain : (backTo cpos (starEach [] X.env)).any (·.1) = false := by rfl)
    (hs : swapsWith (.Call (.Attribute o "append" apos) [e] [] cpos) none pos.line X.env = pure false := by rfl) :
    PS2 X E (.Expr (.Call (.Attribute o "append" apos) [e] [] cpos) pos) (tDrop (tBM X.K "list" rAppend to (tCons te tNil))) (yApp fo fe) := by
  refine ⟨ps_expr (pe_bm PySem.F.plainAttrs_list PySem.F.slot_list_append PySem.F.type_list_append mt_append ho.pe (pa_cons he.pe pa_nil hst) hbase hfew hline hst hplain) hs, fun I W F0 σ ρ S F H D oo q => ?_⟩
  refine ho.de I W F0 σ ρ S F H _ oo ((sm_g q).imp (fun x S1 g1 J v F1 H1 l1 o1 s1 r1 => ?_) fun _ _ h => h)
  have g1' := sm_g (F := F1) (σ := σ) (I := J) (Post2.mono l1 g1)
  obtain ⟨n, ds0, rfl, hl, g2⟩ := chk_at (K := X.K) (I := J) g1'
  obtain ⟨a, vs, rfl, ha, hv, rv, _⟩ := sLst_at o1 hl r1
  refine ⟨.inl ⟨rfl, vs, SqL.of hv⟩, ?_⟩
  refine he.de J W F0 σ ρ S1 F1 H1 _ o1 ((sm_g g2).imp (fun d S2 g3 L w F2 H2 l2 o2 s2 r2 => ?_) fun _ _ h => h)
  unfold addS at g3
  dsimp only at g3
  cases hl2 : sLst S2 n with
  | none => rw [hl2] at g3; exact g3.elim
  | some ds =>
    rw [hl2] at g3
    dsimp only at g3
    split at g3
    · rename_i hlen
      obtain ⟨a2, vs2, e2, ha2, hv2, rv2, hs2⟩ := sLst_at o2 hl2 ((@rp_ref L X.K F2 _ n).mpr ⟨a, rfl, l2 n a ha⟩)
      cases e2
      refine ⟨a, vs2, w, rfl, rfl, hv2, by rw [line_eq, @Rps.length L X.K F2 vs2 ds rv2]; exact hlen, ?_⟩
      refine g3 L σ F2 _ l2 (o2.put hs2 ha2 fun V1 _ _ => ⟨_, upd_same, @Rps.append L X.K F2 _ _ _ _ rv2 (@Rps.one L X.K F2 _ _ r2)⟩)
    · exact g3.elim
theorem ps2_put {ipos : Pos} (ho : PE2 X E o to fo) (hk : PE2 X E k tk fk) (he : PE2 X E e te fe)
    (ha : ∀ v, assign (.Subscript o k ipos) X.env v = (do
      let ov ← holding [v] (eval o X.env)
      let iv ← holding [v, ov] (eval k X.env)
      standAt ipos
      holding [v, ov, iv] (setItem ov iv v)
      release [v, ov, iv] []) := by intro _; rfl)
    (hs : swapsWithSole [.Subscript o k ipos] e pos.line X.env = pure false := by rfl) (hw : swappedStores [.Subscript o k ipos] e X.env = pure none := by rfl)
    (h1 : (assignEach [.Subscript o k ipos] X.env).map (·.2) = [assign (.Subscript o k ipos) X.env] := by rfl) :
    PS2 X E (.Assign [.Subscript o k ipos] e pos) (tAsg te (gSub to tk rSetL)) (yPut fo fk fe) := by
  refine ⟨ps_asg he.pe (pg_sub ho.pe hk.pe set_list ha) hs hw h1, fun I W F0 σ ρ S F H D oo q => ?_⟩
  refine he.de I W F0 σ ρ S F H _ oo ((sm_g q).imp (fun d S1 g1 J v F1 H1 l1 o1 s1 r1 => ?_) fun _ _ h => h)
  refine ho.de J W F0 σ ρ S1 F1 H1 _ o1 ((sm_g (Post2.mono l1 g1)).imp (fun x S2 g2 L w F2 H2 l2 o2 s2 r2 => ?_) fun _ _ h => h)
  refine hk.de L W F0 σ ρ S2 F2 H2 _ o2 ((sm_g (Post2.mono l2 g2)).imp (fun j S3 g3 M u F3 H3 l3 o3 s3 r3 => ?_) fun _ _ h => h)
  unfold putS at g3
  split at g3
  · rename_i n j
    cases hl : sLst S3 n with
    | none => rw [hl] at g3; exact g3.elim
    | some ds =>
      rw [hl] at g3
      dsimp only at g3
      cases hi : ixN ds.length j with
      | none => rw [hi] at g3; exact g3.elim
      | some m =>
        rw [hi] at g3
        obtain ⟨a, vs, rfl, ha3, hv, rv, hs3⟩ := sLst_at o3 hl (Rp.ext l3 (@Rp.mono L X.K F2 F3 s3 w _ r2))
        refine ⟨a, vs, _, m, rfl, (@rp_int M X.K F3 u j).mp r3, hv, by rw [@Rps.length M X.K F3 vs ds rv]; exact hi, ?_⟩
        refine g3 M σ F3 _ l3 (o3.put hs3 ha3 fun V1 _ _ => ⟨_, upd_same, @Rps.set M X.K F3 vs ds v d m rv (@Rp.mono M X.K F1 F3 (s2.trans s3) v d (Rp.ext (l2.trans l3) r1))⟩)
  · exact g3.elim
end
end DD

namespace DD
open PySem PySem.Spec PyProof.Rows L2

/-! ### instances of the store: o.f, o.f = e -/
theorem zip_look [Iota] {K : PySem.W.Frag} {F : Hp} {f : Str} : ∀ {ns : List Str} {vs : List V} {ds : List D}, Rps K F vs ds → ns.length = vs.length → ∀ d, (ns.zip ds).lookup f = some d → ∃ v, (ns.zip vs).lookup f = some v ∧ Rp K F v d
  | [], vs, ds, r, l, d, h => by simp at h
  | n :: ns, vs, [], r, l, d, h => by simp at h
  | n :: ns, vs, e :: ds, r, l, d, h => by
    obtain ⟨y, ys, rfl, ry, rs⟩ := r.of_cons
    rw [List.zip_cons_cons, List.lookup_cons] at h ⊢
    cases hb : (f == n) with
    | true =>
      rw [hb] at h
      cases h
      exact ⟨y, rfl, ry⟩
    | false =>
      rw [hb] at h
      exact zip_look rs (by simpa using l) d h
theorem zip_none [Iota] {K : PySem.W.Frag} {F : Hp} {f : Str} : ∀ {ns : List Str} {vs : List V} {ds : List D}, Rps K F vs ds → ns.length = vs.length → (ns.zip ds).lookup f = none → (ns.zip vs).lookup f = none
  | [], vs, ds, r, l, h => by simp
  | n :: ns, vs, [], r, l, h => by
    cases r.of_nil
    cases l
  | n :: ns, vs, e :: ds, r, l, h => by
    obtain ⟨y, ys, rfl, ry, rs⟩ := r.of_cons
    rw [List.zip_cons_cons, List.lookup_cons] at h ⊢
    cases hb : (f == n) with
    | true => rw [hb] at h; cases h
    | false =>
      rw [hb] at h
      exact zip_none rs (by simpa using l) h
def putNs (f : Str) : List Str → List Str
  | [] => [f]
  | g :: r => if g = f then g :: r else g :: putNs f r
def putVs {α : Type} (f : Str) (y : α) : List Str → List α → List α
  | [], _ => [y]
  | g :: r, x :: xs => if g = f then y :: xs else x :: putVs f y r xs
  | _ :: _, [] => []
theorem putF_zip (f : Str) (y : V) : ∀ (ns : List Str) (vs : List V), ns.length = vs.length → putF f y (ns.zip vs) = (putNs f ns).zip (putVs f y ns vs)
  | [], [], _ => rfl
  | g :: ns, v :: vs, h => by
    rw [List.zip_cons_cons]
    show (if g = f then (g, y) :: ns.zip vs else (g, v) :: putF f y (ns.zip vs)) = (if g = f then g :: ns else g :: putNs f ns).zip (if g = f then y :: vs else v :: putVs f y ns vs)
    by_cases e : g = f
    · rw [if_pos e, if_pos e, if_pos e]; rfl
    · rw [if_neg e, if_neg e, if_neg e, putF_zip f y ns vs (by simpa using h)]; rfl
theorem put_len {α : Type} (f : Str) (y : α) : ∀ (ns : List Str) (vs : List α), ns.length = vs.length → (putNs f ns).length = (putVs f y ns vs).length
  | [], [], _ => rfl
  | g :: ns, v :: vs, h => by
    show (if g = f then g :: ns else g :: putNs f ns).length = (if g = f then y :: vs else v :: putVs f y ns vs).length
    by_cases e : g = f
    · rw [if_pos e, if_pos e]; simpa using h
    · rw [if_neg e, if_neg e, List.length_cons, List.length_cons, put_len f y ns vs (by simpa using h)]
theorem rps_put [Iota] {K : PySem.W.Frag} {F : Hp} {f : Str} {y : V} {d : D} (ry : Rp K F y d) : ∀ {ns : List Str} {vs : List V} {ds : List D}, ns.length = vs.length → Rps K F vs ds → Rps K F (putVs f y ns vs) (putVs f d ns ds)
  | [], vs, ds, _, r => Rps.one ry
  | g :: ns, vs, [], h, r => by
    cases r.of_nil
    cases h
  | g :: ns, vs, e :: ds, h, r => by
    obtain ⟨z, zs, rfl, rz, rs⟩ := r.of_cons
    show Rps K F (if g = f then y :: zs else z :: putVs f y ns zs) (if g = f then d :: ds else e :: putVs f d ns ds)
    by_cases c : g = f
    · rw [if_pos c, if_pos c]; exact .cons ry rs
    · rw [if_neg c, if_neg c]; exact .cons rz (rps_put ry (by simpa using h) rs)
/-- an instance's field; Cs: the classes that it may have -/
def fldS (Cs : List Addr) (f : Str) (d : D) : SM D := fun S => match d with
  | .ref n => (match S[n]? with
    | some (.ins C ns ds) => if C ∈ Cs then (match (ns.zip ds).lookup f with
      | some d => .ok d S
      | none => .bad) else .bad
    | _ => .bad)
  | _ => .bad
def setS (Cs : List Addr) (f : Str) (x d : D) (k : Store → RO) : SO := fun S => match x with
  | .ref n => (match S[n]? with
    | some (.ins C ns ds) => if C ∈ Cs ∧ ns.length < 1000 then k (S.set n (.ins C (putNs f ns) (putVs f d ns ds))) else .bad
    | _ => .bad)
  | _ => .bad
def yFld (Cs : List Addr) (f : Str) (o v : En → SM D) : En → SO := fun ρ => sm (v ρ) ρ fun d => sm (o ρ) ρ fun x => setS Cs f x d (.nx ρ)
section
variable {X : Cx} {E : WX} {pos pos' : Pos} {e o value : Expr} {f : Str} {te to tv : TE} {fe fo fv : En → SM D} {Cs : List Addr}
theorem pe2_fld (hC : ∀ C ∈ Cs, Cls X.K C ∧ NoAttr X.K C f) (he : PE2 X E e te fe) (hb : attributeBase e f X.env (eval e X.env) = eval e X.env := by rfl) : PE2 X E (.Attribute e f pos) (tFld X.K te f) (fun ρ => fe ρ >>= fldS Cs f) := by
  refine ⟨pe_fld he.pe hb, fun I W F0 σ ρ S F H Q oo g0 => ?_⟩
  refine he.de I W F0 σ ρ S F H _ oo ((G2.of_bind g0).imp (fun x S1 g1 J v F1 H1 l1 o1 s1 r1 => ?_) fun _ _ h => h)
  unfold fldS at g1
  split at g1
  · rename_i n
    split at g1
    · rename_i C ns ds hS
      split at g1
      · rename_i hc
        cases hl : (ns.zip ds).lookup f with
        | none => rw [hl] at g1; exact g1.elim
        | some d =>
          rw [hl] at g1
          obtain ⟨a, rfl, ha⟩ := (@rp_ref J X.K F1 v n).mp r1
          obtain ⟨dx, vs, e1, e2, w, ff, ln, rv⟩ := o1.get hS ha
          obtain ⟨y, h1, h2⟩ := @zip_look J X.K F1 f ns vs ds rv ln d hl
          exact ⟨a, C, dx, _, y, rfl, e1, (hC C hc).1, (hC C hc).2, h1, g1 J y F1 H1 l1 o1 s1 h2⟩
      · exact g1.elim
    · exact g1.elim
  · exact g1.elim
theorem ps2_fld (hC : ∀ C ∈ Cs, Cls X.K C ∧ NoAttr X.K C f) (ho : PE2 X E o to fo) (hv : PE2 X E value tv fv) (hs : swapsWith value (some (.Attribute o f pos')) pos.line X.env = pure false := by rfl) : PS2 X E (.Assign [.Attribute o f pos'] value pos) (sFld X.K to tv f) (yFld Cs f fo fv) := by
  refine ⟨ps_fld ho.pe hv.pe hs, fun I W F0 σ ρ S F H D oo q => ?_⟩
  refine hv.de I W F0 σ ρ S F H _ oo ((sm_g q).imp (fun d S1 g1 J v F1 H1 l1 o1 s1 r1 => ?_) fun _ _ h => h)
  refine ho.de J W F0 σ ρ S1 F1 H1 _ o1 ((sm_g (Post2.mono l1 g1)).imp (fun x S2 g2 L w F2 H2 l2 o2 s2 r2 => ?_) fun _ _ h => h)
  unfold setS at g2
  split at g2
  · rename_i n
    split at g2
    · rename_i C ns ds hS
      split at g2
      · rename_i hc
        obtain ⟨a, rfl, ha⟩ := (@rp_ref L X.K F2 w n).mp r2
        obtain ⟨dx, vs, e1, e2, w2, ff, ln, rv⟩ := o2.get hS ha
        refine ⟨a, C, dx, _, rfl, e1, (hC C hc.1).1, (hC C hc.1).2, ?_, ?_⟩
        · rw [List.length_zip, ln, Nat.min_self, ← ln]; exact hc.2
        · refine g2 L σ F2 _ l2 (o2.put hS ha fun V1 sV q1 => ?_)
          obtain ⟨dx', vs', e3, e4, w3, f3, ln3, rv3⟩ := q1
          have h3 := sV _ _ e3
          rw [e1] at h3
          injection h3 with h3
          injection h3 with _ hdx hz
          have hne : dx' ≠ a := fun z => by rw [z, e3] at e4; cases e4
          subst hdx
          refine ⟨dx, putVs f v ns vs, ?_, by rw [upd_ne hne]; exact e4, w3, f3, put_len f v ns vs ln, @rps_put L X.K F2 f v d (@Rp.mono L X.K F1 F2 s2 v d (Rp.ext l2 r1)) ns vs ds ln rv⟩
          rw [upd_same, putF_zip f v ns vs ln]
      · exact g2.elim
    · exact g2.elim
  · exact g2.elim
end
end DD

namespace DD
open PySem PySem.Spec PyProof.Rows L2

/-! ### o.m(..), o of one of some classes -/
/-- what the class at C has under m: its def, and what it keeps -/
structure HasM (X : Cx) (k : Nat) (C : Addr) (m : Str) (mm : List D → SM D) : Prop where
  cls : Cls X.K C
  ex : ∃ (f : Addr) (fd : FuncData) (ps : List Str), Meth X.K C m f ∧ FnOk X.prog X.w X.K X.mg X.base (L2.CX X.prog X.w) k f fd ps (spS X.K mm) ∧ Binds X.K fd ps []
def tMethM (Cs : List Addr) (m : Str) (sp : Addr → Sp) (E : L2.St → XK) (ta : TE) (t : TA) : TE := fun σ H Q => ta σ H fun x H1 => ∃ a C dx fs, x = .ref a ∧ H1 a = some (.ins C dx fs) ∧ C ∈ Cs ∧ fs.lookup m = none ∧ t σ H1 fun vs H2 => sp C (x :: vs) H2 Q (E σ)
section
variable {X : Cx} {W : WX} {k : Nat} {m : Str} {Cs : List Addr} {mm : Addr → List D → SM D} {o e : Expr} {es : List Expr} {ta : TE} {t : TA} {pos apos : Pos} {fo : En → SM D} {fa : En → SM (List D)}
theorem pe_methM {pl : Sem Bool} (he : PE X o ta) (hC : ∀ C ∈ Cs, HasM X k C m (mm C)) (hr : Room k X.A) (tk : Takes X W) (ha : PA X (e :: es) t)
    (hst : starEach (e :: es) X.env = (false, eval e X.env) :: starEach es X.env := by rfl) (hpl : (backTo pos (starEach es X.env)).any (·.1) = false := by rfl)
    (ht : eval (.Call (.Attribute o m apos) (e :: es) [] pos) X.env = (do
      let ov ← eval o X.env
      standAt apos.atName
      let (f, first) ← holding [ov] (getMethod ov m pl)
      callWith pos f first (backTo pos (starEach (e :: es) X.env)) (backToKw pos (keywordEach [] X.env))) := by rfl) :
    PE X (.Call (.Attribute o m apos) (e :: es) [] pos) (tMethM Cs m (fun C => spS X.K (mm C)) (WE W) ta t) := by
  refine ⟨fun pins s σ H Q I h => PySem.W.methodCall_KW (pl := pl) (thn (he.run pins s σ H _ I h) fun u s1 h2 => ?_) ht⟩
  obtain ⟨x, H1, I1, rx, a, C, dx, fs, ex, ea, hc, l, q⟩ := h2
  subst ex
  obtain rfl : u = Value.ref a := rx
  obtain ⟨f, fd, ps, hm, F, hb⟩ := (hC C hc).ex
  refine getmeth_ok I1 ea (hC C hc).cls hm l (PySem.W.callWith_K (first := [.ref a]) (h₀ := X.base) I.ok.mod.kin hm.kp (thn (ha.run pos pins s1 σ H1 _ I1 q) fun us s2 h3 => ?_) hst hpl)
  obtain ⟨vs, H2, I2, r, q2⟩ := h3
  exact ⟨I2.kIn, run_fnS (us := .ref a :: us) (vs := .ref a :: vs) (E := WE W) F hr hb (passAt tk σ) I2 (.cons rfl r) q2⟩
theorem pe_methM0 {pl : Sem Bool} (he : PE X o ta) (hC : ∀ C ∈ Cs, HasM X k C m (mm C)) (hr : Room k X.A) (tk : Takes X W)
    (ht : eval (.Call (.Attribute o m apos) [] [] pos) X.env = (do
      let ov ← eval o X.env
      standAt apos.atName
      let (f, first) ← holding [ov] (getMethod ov m pl)
      callWith pos f first (backTo pos (starEach [] X.env)) (backToKw pos (keywordEach [] X.env))) := by rfl) :
    PE X (.Call (.Attribute o m apos) [] [] pos) (tMethM Cs m (fun C => spS X.K (mm C)) (WE W) ta tNil) := by
  refine ⟨fun pins s σ H Q I h => PySem.W.methodCall_KW (pl := pl) (thn (he.run pins s σ H _ I h) fun u s1 h2 => ?_) ht⟩
  obtain ⟨x, H1, I1, rx, a, C, dx, fs, ex, ea, hc, l, q⟩ := h2
  subst ex
  obtain rfl : u = Value.ref a := rx
  obtain ⟨f, fd, ps, hm, F, hb⟩ := (hC C hc).ex
  exact getmeth_ok I1 ea (hC C hc).cls hm l (PySem.W.callWith_K0 (first := [.ref a]) I1.kIn hm.kp (run_fnS (us := [.ref a]) (vs := [.ref a]) (E := WE W) F hr hb (passAt tk σ) I1 (.cons rfl .nil) q))
/-- which class, none of its fields named m -/
def clsS (Cs : List Addr) (m : Str) (d : D) : SM Addr := fun S => match d with
  | .ref n => (match S[n]? with
    | some (.ins C ns ds) => if C ∈ Cs ∧ (ns.zip ds).lookup m = none then .ok C S else .bad
    | _ => .bad)
  | _ => .bad
def zMeth (Cs : List Addr) (m : Str) (mm : Addr → List D → SM D) (o : En → SM D) (f : En → SM (List D)) : En → SM D := fun ρ => o ρ >>= fun x => clsS Cs m x >>= fun C => f ρ >>= fun ds => mm C (x :: ds)
theorem de2_meth {K : PySem.W.Frag} (ho : DE2 K W ta fo) (ha : DA2 K W t fa) : DE2 K W (tMethM Cs m (fun C => spS K (mm C)) (WE W) ta t) (zMeth Cs m mm fo fa) := fun I V F0 σ ρ S F H Q oo g0 => by
  refine ho I V F0 σ ρ S F H _ oo ((G2.of_bind g0).imp (fun x S1 g1 J v F1 H1 l1 o1 s1 r1 => ?_) fun _ _ h => h)
  have g2 := G2.of_bind g1
  unfold clsS at g2
  split at g2
  · rename_i n
    split at g2
    · rename_i C ns ds0 hS
      split at g2
      · rename_i hc
        obtain ⟨a, rfl, ha1⟩ := (@rp_ref J K F1 v n).mp r1
        obtain ⟨dx, vs0, e1, e2, w, ff, ln, rv⟩ := o1.get hS ha1
        refine ⟨a, C, dx, _, rfl, e1, hc.1, @zip_none J K F1 m ns vs0 ds0 rv ln hc.2, ?_⟩
        have g3 : G2 ((fa ρ >>= fun ds => mm C (D.ref n :: ds)) S1) _ _ := g2
        refine ha J V F0 σ ρ S1 F1 H1 _ o1 ((G2.of_bind g3).imp (fun ds S2 g4 L vs F2 H2 l2 o2 s2 r2 => ?_) fun _ _ h => h.mono l1 s1)
        obtain ⟨Wc, sF, st, back⟩ := o2.call
        refine ⟨L, S2, Wc, F2, D.ref n :: ds, sF, st, @Rps.cons L K F2 _ _ _ _ ((@rp_ref L K F2 _ n).mpr ⟨a, rfl, l2 n a ha1⟩) r2, g4.imp (fun d S3 g5 M v F3 H3 l3 oh r3 => ?_) fun x S3 g5 M cls dd F3 H3 l3 oh r3 => ?_⟩
        · obtain ⟨o3, s3⟩ := back M S3 F3 H3 l3 oh
          exact g5 M v F3 H3 ((l1.trans l2).trans l3) o3 ((s1.trans s2).trans s3) r3
        · obtain ⟨o3, s3⟩ := back M S3 F3 H3 l3 oh
          exact g5 M cls dd F3 H3 ((l1.trans l2).trans l3) o3 ((s1.trans s2).trans s3) r3
      · exact g2.elim
    · exact g2.elim
  · exact g2.elim
end
end DD

namespace DD
open PySem PySem.Spec PyProof.Rows L2

/-! ### C(..) -/
def tMakeX (C : Addr) (sp : Sp) (E : L2.St → XK) (t : TA) : TE := fun σ H Q => t σ H fun vs H1 => ∀ x dx, H1 x = none → H1 dx = none → dx ≠ x →
  sp (.ref x :: vs) (upd (upd H1 dx (.own x)) x (.ins C dx [])) (fun v H2 => v = .non ∧ Q (.ref x) H2) (E σ)
def isN (d : D) : SM Unit := fun S => match d with
  | .non => .ok () S
  | _ => .bad
def zMake (C : Addr) (mm : List D → SM D) (f : En → SM (List D)) : En → SM D := fun ρ => f ρ >>= fun ds => SM.new (.ins C [] []) >>= fun x => mm (x :: ds) >>= fun d => isN d >>= fun _ => SM.ret x
section
variable {X : Cx} {W : WX} {k : Nat} {C f : Addr} {x : Str} {mm : List D → SM D} {e : Expr} {es : List Expr} {t : TA} {p pos : Pos} {fa : En → SM (List D)} {fd : FuncData} {ps : List Str}
theorem pe_makeX (M : Mk X.K C f) (F : FnOk X.prog X.w X.K X.mg X.base (L2.CX X.prog X.w) k f fd ps (spS X.K mm)) (hr : Room (k + 1) X.A) (hm : X.mg x = some (.ref C)) (hb : Binds X.K fd ps []) (tk : Takes X W) (ha : PA X (e :: es) t) (hg : Gl X x := by rfl)
    (hdb : (x == ("__debug__" : Str)) = false := by decide) (he : starEach (e :: es) X.env = (false, eval e X.env) :: starEach es X.env := by rfl) (hpl : (backTo pos (starEach es X.env)).any (·.1) = false := by rfl) :
    PE X (.Call (.Name x p) (e :: es) [] pos) (tMakeX C (spS X.K mm) (WE W) t) := by
  refine ⟨fun pins s σ H Q I h => ?_⟩
  -- the wish, at these slots
  have hs : ∀ {s1 : Shared} {H1 : Hp} {us : List Value} {vs : List V}, Inv X pins σ H1 s1 → Vals vs us → (∀ y dx, H1 y = none → H1 dx = none → dx ≠ y → spS X.K mm (.ref y :: vs) (upd (upd H1 dx (.own y)) y (.ins C dx [])) (fun v H2 => v = .non ∧ Q (.ref y) H2) (WE W σ)) →
      wpAny (model X.prog X.w) X.A (call (.ref C) us) (EP X pins σ Q) X.xe s1 := fun {s1 H1 us vs} I1 r q => by
    have hq := q (s1.heap.objs.size + 1) s1.heap.objs.size (I1.hok.fresh (Nat.le_succ _)) (I1.hok.fresh (Nat.le_refl _)) (Nat.ne_of_lt (Nat.lt_succ_self _))
    have I2 := Inv.made (C := C) I1
    have r2 : Vals (V.ref (s1.heap.objs.size + 1) :: vs) (Value.ref (s1.heap.objs.size + 1) :: us) := .cons rfl r
    have hl : (Value.ref (s1.heap.objs.size + 1) :: us ++ []).length = ps.length := by
      rw [List.append_nil, ← r2.length]
      exact F.len _ _ _ _ hq
    have hb2 := hb _ (Value.ref (s1.heap.objs.size + 1) :: us) I2.kIn hl
    rw [List.append_nil] at hb2
    refine wpAny_call (make_map (f := f) I1.kIn M.makes M.init (beq_iff_eq.mp M.fn) (codeAny_mono (F.run _ X.stack _ _ ⟨Value.ref (s1.heap.objs.size + 1) :: us, []⟩ (Value.ref (s1.heap.objs.size + 1) :: us) _ _ (WE W σ) (hr.make C us []) (I2.env0.make C us []) hb2 r2 hq) fun rr s' hq' => ?_))
    cases rr with
    | error e => exact passAt tk σ pins _ _ e s' I2 hq'
    | ok fl =>
      cases fl with
      | ret u =>
        obtain ⟨v, H', I3, rv, ev, q3⟩ := I2.after hq'
        subst ev
        exact ⟨rv, ⟨V.ref (s1.heap.objs.size + 1), H', I3, rfl, q3⟩⟩
      | next => exact False.elim hq'
      | brk => exact False.elim hq'
      | cont => exact False.elim hq'
  refine wpAny_Call_Name_kw (ld_glob I hg hm ?_ hdb)
  refine PySem.W.callWith_K (h₀ := X.base) I.ok.mod.kin M.kp (thn (ha.run pos pins s σ H _ I h) fun us s1 h3 => ?_) he hpl
  obtain ⟨vs, H1, I1, r, q⟩ := h3
  exact ⟨I1.kIn, hs I1 r q⟩
theorem de2_make {K : PySem.W.Frag} (ha : DA2 K W t fa) : DE2 K W (tMakeX C (spS K mm) (WE W) t) (zMake C mm fa) := fun I V F0 σ ρ S F H Q oo g0 => by
  refine ha I V F0 σ ρ S F H _ oo ((G2.of_bind g0).imp (fun ds S1 g1 J vs F1 H1 l1 o1 s1 r1 => ?_) fun _ _ h => h)
  intro y dx hy hd hne
  have hlen : J.at_.length = S1.length := by obtain ⟨_, _, st⟩ := o1; exact st.len
  have o2 := o1.allocI (C := C) hy hd hne
  have g2 : G2 ((mm (D.ref S1.length :: ds) >>= fun d => isN d >>= fun _ => SM.ret (D.ref S1.length)) (S1 ++ [.ins C [] []])) _ _ := g1
  obtain ⟨Wc, sF, st, back⟩ := o2.call
  have hlp := Iota.le_push J y
  have hat : (J.push y).at_[S1.length]? = some y := by
    show (J.at_ ++ [y])[S1.length]? = some y
    rw [← hlen]; simp
  refine ⟨J.push y, S1 ++ [.ins C [] []], Wc, F1, D.ref S1.length :: ds, sF, st, @Rps.cons (J.push y) K F1 _ _ _ _ ((@rp_ref (J.push y) K F1 _ _).mpr ⟨y, rfl, hat⟩) (Rps.ext hlp r1), (G2.of_bind g2).imp (fun d S3 g5 M v F3 H3 l3 oh r3 => ?_) fun z S3 g5 M cls dd F3 H3 l3 oh r3 => ?_⟩
  · obtain ⟨o3, s3⟩ := back M S3 F3 H3 l3 oh
    have g6 := G2.of_bind g5
    unfold isN at g6
    split at g6
    · refine ⟨(@rp_non M K F3 v).mp r3, ?_⟩
      exact g6 M _ F3 H3 ((l1.trans hlp).trans l3) o3 (s1.trans s3) ((@rp_ref M K F3 _ _).mpr ⟨y, rfl, l3 _ _ hat⟩)
    · exact g6.elim
  · obtain ⟨o3, s3⟩ := back M S3 F3 H3 l3 oh
    exact g5 M cls dd F3 H3 ((l1.trans hlp).trans l3) o3 (s1.trans s3) r3
end
end DD

namespace DD
open PySem PySem.Spec PyProof.Rows L2

/-! ### the rules, whole -/
section
variable {X : Cx} {E : WX} {a b c e : Expr} {es rest : List Expr} {ta tb tc te : TE} {t : TA} {tt tu : TT} {fa fb fc fe : En → SM D} {f : En → SM (List D)} {ft fu : En → SM Bool} {pos p : Pos} {x : Str}
theorem pe2_op {op : Operator} {r : L2.R2} {g : D → D → SM D} (ho : OpR X (binaryOp op) r) (hr : DQ2 X.K r g) (ha : PE2 X E a ta fa) (hb : PE2 X E b tb fb) : PE2 X E (.BinOp a op b pos) (tOp r ta tb) (zOp g fa fb) := ⟨pe_op ho ha.pe hb.pe, de2_op hr ha.de hb.de⟩
theorem pe2_cmp {op : CmpOp} {r : L2.R2} {g : D → D → SM D} (ho : OpR X (compareOp op) r) (hr : DQ2 X.K r g) (ha : PE2 X E a ta fa) (hb : PE2 X E b tb fb) (hm : behindInMarks op b = false := by first | exact nomark _ | rfl | with_unfolding_all rfl) :
    PE2 X E (.Compare a [op] [b] pos) (tOp r ta tb) (zOp g fa fb) := ⟨pe_cmpR ho ha.pe hb.pe hm, de2_op hr ha.de hb.de⟩
theorem pt2_cmp {op : CmpOp} {r : L2.R2} {g : D → D → SM D} (ho : OpR X (compareOp op) r) (hr : DQ2 X.K r g) (ha : PE2 X E a ta fa) (hb : PE2 X E b tb fb) (hm : behindInMarks op b = false := by first | exact nomark _ | rfl | with_unfolding_all rfl) :
    PT2 X E (.Compare a [op] [b] pos) (tTest (tOp r ta tb)) (zTst (zOp g fa fb)) := ⟨pt_cmpR ho ha.pe hb.pe hm, dt2_tst (de2_op hr ha.de hb.de)⟩
theorem pe2_ix (ha : PE2 X E a ta fa) (hb : PE2 X E b tb fb) (hs : PlainIx b := by exact fun _ _ => rfl) : PE2 X E (.Subscript a b pos) (tOp (rIx X.K) ta tb) (zOp ixS fa fb) := ⟨pe_ix ix_seq ha.pe hb.pe hs, de2_op dq2_ix ha.de hb.de⟩
theorem pa2_nil : PA2 X E [] tNil zNil := ⟨pa_nil, da2_nil⟩
theorem pa2_cons (ha : PE2 X E e te fe) (hr : PA2 X E es t f) (hs : starEach (e :: es) X.env = (false, eval e X.env) :: starEach es X.env := by rfl) : PA2 X E (e :: es) (tCons te t) (zCons fe f) := ⟨pa_cons ha.pe hr.pe hs, da2_cons ha.de hr.de⟩
theorem pe2_tup {x1} (h : PA2 X E es t f) : PE2 X E (.Tuple es x1 pos) (tTup t) (zTup f) := ⟨pe_tup h.pe, de2_tup h.de⟩
theorem pe2_lst (h : PA2 X E es t f) : PE2 X E (.List es pos) (tLst t) (zLst f) := ⟨pe_lst h.pe, de2_lst h.de⟩
theorem pe2_new (h : PA2 X E es t f) : PE2 X E (.List es pos) (tLst t) (zNew f) := ⟨pe_lst h.pe, de2_new h.de⟩
theorem pt2_not (ha : PT2 X E a tt ft) : PT2 X E (.UnaryOp .Not a pos) (tNot tt) (zNot ft) := ⟨pt_not ha.pe, dt2_not ha.de⟩
theorem pe2_if (hc : PT2 X E c tt ft) (ha : PE2 X E a ta fa) (hb : PE2 X E b tb fb) : PE2 X E (.IfExp c a b pos) (tIf tt ta tb) (zIf ft fa fb) := ⟨pe_ifExp hc.pe ha.pe hb.pe, de2_if hc.de ha.de hb.de⟩
theorem pe2_callB {id : String} {r : List V → Hp → VK → Prop} {g : List D → SM D} (hc : CallR X (.builtin id) r) (hr : DC2 X.K r g) (hm : X.mg x = none) (hv : bootBuiltins x = some (.builtin id)) (ha : PA2 X E (e :: es) t f) (hg : Gl X x := by rfl) (hn : x ≠ "__name__" := by decide) (hdb : (x == ("__debug__" : Str)) = false := by decide)
    (he : starEach (e :: es) X.env = (false, eval e X.env) :: starEach es X.env := by rfl) (hpl : (backTo pos (starEach es X.env)).any (·.1) = false := by rfl) : PE2 X E (.Call (.Name x p) (e :: es) [] pos) (tCB r t) (fun ρ => f ρ >>= g) :=
  ⟨pe_callB hc hg hm hv ha.pe hn hdb he hpl, de2_callS hr ha.de⟩
theorem pe2_meth {k : Nat} {m : Str} {Cs : List Addr} {mm : Addr → List D → SM D} {pl : Sem Bool} {apos : Pos} (ho : PE2 X E a ta fa) (hC : ∀ C ∈ Cs, HasM X k C m (mm C)) (hr : Room k X.A) (tk : Takes X E) (ha : PA2 X E (e :: es) t f)
    (hst : starEach (e :: es) X.env = (false, eval e X.env) :: starEach es X.env := by rfl) (hpl : (backTo pos (starEach es X.env)).any (·.1) = false := by rfl)
    (ht : eval (.Call (.Attribute a m apos) (e :: es) [] pos) X.env = (do
      let ov ← eval a X.env
      standAt apos.atName
      let (f, first) ← holding [ov] (getMethod ov m pl)
      callWith pos f first (backTo pos (starEach (e :: es) X.env)) (backToKw pos (keywordEach [] X.env))) := by rfl) :
    PE2 X E (.Call (.Attribute a m apos) (e :: es) [] pos) (tMethM Cs m (fun C => spS X.K (mm C)) (WE E) ta t) (zMeth Cs m mm fa f) := ⟨pe_methM ho.pe hC hr tk ha.pe hst hpl ht, de2_meth ho.de ha.de⟩
theorem pe2_meth0 {k : Nat} {m : Str} {Cs : List Addr} {mm : Addr → List D → SM D} {pl : Sem Bool} {apos : Pos} (ho : PE2 X E a ta fa) (hC : ∀ C ∈ Cs, HasM X k C m (mm C)) (hr : Room k X.A) (tk : Takes X E)
    (ht : eval (.Call (.Attribute a m apos) [] [] pos) X.env = (do
      let ov ← eval a X.env
      standAt apos.atName
      let (f, first) ← holding [ov] (getMethod ov m pl)
      callWith pos f first (backTo pos (starEach [] X.env)) (backToKw pos (keywordEach [] X.env))) := by rfl) :
    PE2 X E (.Call (.Attribute a m apos) [] [] pos) (tMethM Cs m (fun C => spS X.K (mm C)) (WE E) ta tNil) (zMeth Cs m mm fa zNil) := ⟨pe_methM0 ho.pe hC hr tk ht, de2_meth ho.de da2_nil⟩
end
end DD

namespace DD
open PySem PySem.Spec PyProof.Rows L2

/-- the frozen data told from an earlier moment on -/
theorem Ok2.rebase {I J : Iota} {K : PySem.W.Frag} {S S1 : Store} {W F0 F1 F H1 H : Hp} {σ σ1 : L2.St} {ρ ρ1 : En} (o : Ok2 J K S W F1 σ ρ F H) (o1 : Ok2 I K S1 W F0 σ1 ρ1 F1 H1) : Ok2 J K S W F0 σ ρ F H := by
  obtain ⟨V, b, st⟩ := o
  obtain ⟨V1, b1, st1⟩ := o1
  have c := @Ok.toOkB J K V F1 σ ρ F H b
  have c1 := @Ok.toOkB I K V1 F0 σ1 ρ1 F1 H1 b1
  refine ⟨V, @Ok.mk J K V F0 σ ρ F H ⟨c.sub, c.wld, c1.ext.trans c.ext, fun a x nt e f => ?_⟩ (@Ok.len J K V F1 σ ρ F H b) (@Ok.slots J K V F1 σ ρ F H b) (@Ok.dist J K V F1 σ ρ F H b), st⟩
  cases hw : W a with
  | none => exact (st.fr a x e hw).2
  | some y => exact c.new a x nt e (c1.new a x nt (by
    have h1 := st1.sub a y hw
    have h2 := c.wld a _ (st.sub a y hw)
    have h3 := c.wld a x e
    rw [h2] at h3
    cases h3
    exact h1) f)
theorem OkH.rebase {I J : Iota} {K : PySem.W.Frag} {S S1 : Store} {W F0 F1 F H1 H : Hp} {σ1 : L2.St} {ρ1 : En} (o : OkH J K S W F1 F H) (o1 : Ok2 I K S1 W F0 σ1 ρ1 F1 H1) : OkH J K S W F0 F H := by
  obtain ⟨V, c, st⟩ := o
  obtain ⟨V1, b1, st1⟩ := o1
  have c1 := @Ok.toOkB I K V1 F0 σ1 ρ1 F1 H1 b1
  refine ⟨V, ⟨c.sub, c.wld, c1.ext.trans c.ext, fun a x nt e f => ?_⟩, st⟩
  cases hw : W a with
  | none => exact (st.fr a x e hw).2
  | some y => exact c.new a x nt e (c1.new a x nt (by
    have h1 := st1.sub a y hw
    have h2 := c.wld a _ (st.sub a y hw)
    have h3 := c.wld a x e
    rw [h2] at h3
    cases h3
    exact h1) f)
theorem Ok2.self {I : Iota} {K : PySem.W.Frag} {S : Store} {W F0 F H : Hp} {σ : L2.St} {ρ : En} (o : Ok2 I K S W F0 σ ρ F H) : Ok2 I K S W F σ ρ F H := by
  obtain ⟨V, b, st⟩ := o
  exact ⟨V, @Ok.self I K V F0 F H σ ρ b, st⟩
theorem Post2.rebase {K : PySem.W.Frag} {X : WX} {W F0 F1 H1 : Hp} {E : Ends} {I L : Iota} {S1 : Store} {σ1 : L2.St} {ρ1 : En} {r : RO} (o1 : Ok2 L K S1 W F0 σ1 ρ1 F1 H1) (h : Post2 K X W F0 E I r) : Post2 K X W F1 E I r := by
  cases r with
  | nx ρ S => exact fun J σ F H l o => h J σ F H l (o.rebase o1)
  | rt d S => exact fun J v F H l o => h J v F H l (o.rebase o1)
  | bk ρ S => exact fun J σ F H l o => h J σ F H l (o.rebase o1)
  | ct ρ S => exact fun J σ F H l o => h J σ F H l (o.rebase o1)
  | ex x ρ S => exact fun J σ F H c d l o => h J σ F H c d l (o.rebase o1)
  | bad => exact h
theorem Ok2.ext {I : Iota} {K : PySem.W.Frag} {S : Store} {W F0 F H : Hp} {σ : L2.St} {ρ : En} (o : Ok2 I K S W F0 σ ρ F H) : Same F0 F := by
  obtain ⟨V, b, _⟩ := o
  exact (@Ok.toOkB I K V F0 σ ρ F H b).ext

/-! ### for, over what is never changed -/
def DI2 (K : PySem.W.Frag) (E : WX) (wi : TI) (f : En → SM (List D)) : Prop := ∀ (I : Iota) (W F0 : Hp) (σ : L2.St) (ρ : En) (S : Store) (F H : Hp) (Rk : It → Hp → Prop), Ok2 I K S W F0 σ ρ F H →
  G2 (f ρ S) (fun ds S' => ∀ (J : Iota) (T : It) F' H', Iota.le I J → Ok2 J K S' W F0 σ ρ F' H' → Same F F' → @Walks J K F' T ds → Rk T H') (KX K E I W F0 σ ρ F) → wi σ H Rk
structure PI2 (X : Cx) (E : WX) (tg iter : Expr) (wi : TI) (f : En → SM (List D)) : Prop where
  pe : PI X tg iter wi
  de : DI2 X.K E wi f
theorem pi2_lift {X : Cx} {E : WX} {tg iter : Expr} {wi : TI} {f : En → R (List D)} (h : ∀ I : Iota, @PID I X tg iter wi f) : PI2 X E tg iter wi (fun ρ => SM.lift (f ρ)) := by
  refine ⟨@PID.pe ⟨[]⟩ X tg iter wi f (h ⟨[]⟩), fun I W F0 σ ρ S F H Rk o g => ?_⟩
  obtain ⟨W1, o1, s1⟩ := o
  obtain ⟨ds, e1, k⟩ := g.of_lift
  exact @PID.de I X tg iter wi f (h I) W1 F σ ρ F H ds Rk (@Ok.self I X.K W1 F0 F H σ ρ o1) e1 fun T F' H' o2 s2 w2 => k I T F' H' (Iota.le.refl I) (Ok2.after o1 s1 o2 s2) s2 w2
theorem Walks.ext {I J : Iota} {K : PySem.W.Frag} {F : Hp} {T : It} {ds : List D} (l : Iota.le I J) (h : @Walks I K F T ds) : @Walks J K F T ds := fun F2 H2 s1 s2 i => by
  obtain ⟨a, b⟩ := h F2 H2 s1 s2 i
  refine ⟨a, fun d hd => ?_⟩
  obtain ⟨go, y⟩ := b d hd
  refine ⟨go, fun x H3 yl => ?_⟩
  rcases y x H3 yl with ⟨e, r⟩ | ⟨p, u, hp, e, r⟩
  · exact .inl ⟨e, Rp.ext l r⟩
  · exact .inr ⟨p, u, hp, e, Rp.ext l r⟩
def forS (tg : D → En → R En) (body : En → SO) : List D → En → SO
  | [], ρ => fun S => .nx ρ S
  | d :: ds, ρ => fun S => match tg d ρ with
    | .ok ρ1 => (match body ρ1 S with
      | .nx ρ2 S2 => forS tg body ds ρ2 S2
      | .ct ρ2 S2 => forS tg body ds ρ2 S2
      | .bk ρ2 S2 => .nx ρ2 S2
      | o => o)
    | _ => .bad
def yFor (src : En → SM (List D)) (tg : D → En → R En) (body : En → SO) : En → SO := fun ρ => sm (src ρ) ρ fun ds => forS tg body ds ρ
theorem ps2_for {X : Cx} {E : WX} {tg iter : Expr} {body : List Stmt} {wi : TI} {gt : TG} {ix : List Nat} {tgf : D → En → R En} {src : En → SM (List D)} {tb : TS} {bf : En → SO} {pos : Pos} (hp : PassesOwn (model X.prog X.w) X.A X.env X.xe) (hc : X.calm = true)
    (hi : PI2 X E tg iter wi src) (hg : ∀ I : Iota, @PGD I X tg gt ix tgf) (hb : PSs2 X E body tb bf) (hs : ∀ x, foldedSetIterable iter X.env x = pure x := by intro _; rfl) : PS2 X E (.For tg iter body [] pos) (tFor wi gt tb) (yFor src tgf bf) := by
  refine ⟨ps_for hp hc hi.pe (@PGD.pe ⟨[]⟩ X tg gt ix tgf (hg ⟨[]⟩)) hb.pe hs, fun I W F0 σ ρ S F H D o q => ?_⟩
  refine hi.de I W F0 σ ρ S F H _ o ((sm_g q).imp (fun ds S1 g1 J T F1 H1 l1 o1 s1 wk => ?_) fun _ _ h => h)
  refine ⟨fun i m σ' H' => m = ds.length - i ∧ i ≤ ds.length ∧ ∃ (L : Iota) (ρ' : En) (S' : Store) (F' : Hp), Iota.le J L ∧ Same F1 F' ∧ Ok2 L X.K S' W F1 σ' ρ' F' H' ∧ Post2 X.K E W F1 D L (forS tgf bf (ds.drop i) ρ' S'),
    ⟨ds.length, rfl, Nat.zero_le _, J, ρ, S1, F1, Iota.le.refl J, Same.refl _, o1.self, Post2.rebase o1 (Post2.mono l1 g1)⟩, ?_⟩
  rintro i m σ' H' ⟨rfl, hil, L, ρ', S', F', l2, sF, o2, q2⟩
  have sub : Same F' H' := by obtain ⟨W1, b1, _⟩ := o2; exact (@Ok.toOkB L X.K W1 F1 σ' ρ' F' H' b1).sub
  have wk' := (Walks.ext l2 wk) F' H' sF sub i
  by_cases hlt : i < ds.length
  · have hx : ds[i]? = some ds[i] := List.getElem?_eq_getElem hlt
    have hd : ds.drop i = ds[i] :: ds.drop (i + 1) := List.drop_eq_getElem_cons hlt
    rw [hd] at q2
    obtain ⟨hgo, hy⟩ := wk'.2 _ hx
    refine .inr ⟨hgo, fun σ2 H2 => ∃ (L2 : Iota) (ρ2 : En) (S2 : Store) (F2 : Hp), Iota.le J L2 ∧ Same F1 F2 ∧ Ok2 L2 X.K S2 W F1 σ2 ρ2 F2 H2 ∧ Post2 X.K E W F1 D L2 (forS tgf bf (ds.drop (i + 1)) ρ2 S2), fun σ2 H2 n => ⟨ds.length - (i + 1), by omega, rfl, by omega, n⟩, fun x H3 yl => ?_⟩
    have item : ∃ F3, Same F1 F3 ∧ Ok2 L X.K S' W F1 σ' ρ' F3 H3 ∧ @Rp L X.K F3 x ds[i] := by
      rcases hy x H3 yl with ⟨e8, r8⟩ | ⟨p, u', hp, e8, r8⟩
      · subst e8; exact ⟨F', sF, o2, r8⟩
      · subst e8
        obtain ⟨o3, s3⟩ := o2.frozen u' hp
        exact ⟨_, sF.trans s3, o3, r8⟩
    obtain ⟨F3, s3, o3, r3⟩ := item
    have q3 : Post2 X.K E W F1 D L (match tgf ds[i] ρ' with
      | .ok ρ1 => (match bf ρ1 S' with
        | .nx ρ2 S2 => forS tgf bf (ds.drop (i + 1)) ρ2 S2
        | .ct ρ2 S2 => forS tgf bf (ds.drop (i + 1)) ρ2 S2
        | .bk ρ2 S2 => .nx ρ2 S2
        | o => o)
      | _ => .bad) := q2
    cases e4 : tgf ds[i] ρ' with
    | err x => rw [e4] at q3; exact q3.elim
    | bad => rw [e4] at q3; exact q3.elim
    | ok ρ1 =>
      rw [e4] at q3
      obtain ⟨W1, b1, st⟩ := o3
      refine @PGD.de L X tg gt ix tgf (hg L) W1 F3 σ' ρ' ρ1 F3 H3 x ds[i] _ (@Ok.self L X.K W1 F1 F3 H3 σ' ρ' b1) r3 e4 fun σ1 b2 _ _ => ?_
      have o4 : Ok2 L X.K S' W F1 σ1 ρ1 F3 H3 := ⟨W1, @Ok.rebase L X.K W1 F1 F3 H3 σ1 ρ1 F3 H3 b2 (@Ok.toOkB L X.K W1 F1 σ' ρ' F3 H3 b1), st⟩
      refine hb.de L W F1 σ1 ρ1 S' F3 H3 _ o4 ?_
      dsimp only at q3
      cases e5 : bf ρ1 S' with
      | nx ρ2 S2 => rw [e5] at q3; exact fun M σ2 F2 H2 l3 o5 => ⟨M, ρ2, S2, F2, l2.trans l3, o5.ext, o5, Post2.mono l3 q3⟩
      | ct ρ2 S2 => rw [e5] at q3; exact fun M σ2 F2 H2 l3 o5 => ⟨M, ρ2, S2, F2, l2.trans l3, o5.ext, o5, Post2.mono l3 q3⟩
      | bk ρ2 S2 => rw [e5] at q3; exact q3
      | rt d S2 => rw [e5] at q3; exact q3
      | ex x ρ2 S2 => rw [e5] at q3; exact q3
      | bad => rw [e5] at q3; exact q3
  · have ei : i = ds.length := by omega
    subst ei
    rw [List.drop_length] at q2
    exact .inl ⟨wk'.1 rfl, q2 L σ' F' H' (Iota.le.refl L) o2⟩
end DD

namespace DD
open PySem PySem.Spec PyProof.Rows L2

/-! ### while, some number of turns being enough -/
theorem ps2_while {X : Cx} {E : WX} {c : Expr} {body : List Stmt} {tc : TT} {fc : En → SM Bool} {tb : TS} {bf : En → SO} {pos : Pos} (n : Nat) (hp : PassesOwn (model X.prog X.w) X.A X.env X.xe) (hc : PT2 X E c tc fc) (hb : PSs2 X E body tb bf) :
    PS2 X E (.While c body [] pos) (tWhile tc tb) (yWhile fc bf n) := by
  refine ⟨ps_while hp hc.pe hb.pe, fun I W F0 σ ρ S F H D o q => ?_⟩
  refine ⟨fun m σ' H' => ∃ (L : Iota) (ρ' : En) (S' : Store) (F' : Hp), Iota.le I L ∧ Ok2 L X.K S' W F0 σ' ρ' F' H' ∧ Post2 X.K E W F0 D L (yWhile fc bf m ρ' S'), ⟨n, I, ρ, S, F, Iota.le.refl I, o, q⟩, ?_⟩
  rintro m σ' H' ⟨L, ρ', S', F', l1, o1, q1⟩
  cases m with
  | zero => exact q1.elim
  | succ m =>
    have q2 : Post2 X.K E W F0 D L (sm (fc ρ') ρ' (fun b => if b = true then fun S => match bf ρ' S with
      | .nx ρ' S' => yWhile fc bf m ρ' S'
      | .ct ρ' S' => yWhile fc bf m ρ' S'
      | .bk ρ' S' => .nx ρ' S'
      | o => o
    else fun S => .nx ρ' S) S') := q1
    refine hc.de L W F0 σ' ρ' S' F' H' _ o1 ((sm_g q2).imp (fun b S2 g2 M F2 H2 l2 o2 s2 => ?_) fun _ _ h => h)
    cases b with
    | false =>
      refine iteF ?_
      have g3 : Post2 X.K E W F0 D L (.nx ρ' S2) := g2
      exact g3 M σ' F2 H2 l2 o2
    | true =>
      refine iteT ⟨fun σ2 H3 => ∃ (L2 : Iota) (ρ2 : En) (S3 : Store) (F3 : Hp), Iota.le I L2 ∧ Ok2 L2 X.K S3 W F0 σ2 ρ2 F3 H3 ∧ Post2 X.K E W F0 D L2 (yWhile fc bf m ρ2 S3), fun σ2 H3 h => ⟨m, Nat.lt_succ_self m, h⟩, ?_⟩
      have g3 : Post2 X.K E W F0 D L (match bf ρ' S2 with
        | .nx ρ' S' => yWhile fc bf m ρ' S'
        | .ct ρ' S' => yWhile fc bf m ρ' S'
        | .bk ρ' S' => .nx ρ' S'
        | o => o) := g2
      refine hb.de M W F0 σ' ρ' S2 F2 H2 _ o2 ?_
      cases e5 : bf ρ' S2 with
      | nx ρ2 S3 => rw [e5] at g3; exact fun N σ2 F3 H3 l3 o5 => ⟨N, ρ2, S3, F3, (l1.trans l2).trans l3, o5, Post2.mono (l2.trans l3) g3⟩
      | ct ρ2 S3 => rw [e5] at g3; exact fun N σ2 F3 H3 l3 o5 => ⟨N, ρ2, S3, F3, (l1.trans l2).trans l3, o5, Post2.mono (l2.trans l3) g3⟩
      | bk ρ2 S3 =>
        rw [e5] at g3
        have g4 : Post2 X.K E W F0 D L (.nx ρ2 S3) := g3
        exact fun N σ2 F3 H3 l3 o5 => g4 N σ2 F3 H3 (l2.trans l3) o5
      | rt d S3 => rw [e5] at g3; exact Post2.mono (r := .rt d S3) l2 g3
      | ex x ρ2 S3 => rw [e5] at g3; exact Post2.mono (r := .ex x ρ2 S3) l2 g3
      | bad => rw [e5] at g3; exact g3
end DD

namespace DD
open PySem PySem.Spec PyProof.Rows L2

/-! ### for x in e, e read over the store -/
section
variable [Iota]
theorem walks_of {K : PySem.W.Frag} {W F0 F1 H1 : Hp} {σ : L2.St} {ρ : En} {v : V} {d : D} {ds : List D} (o1 : Ok K W F0 σ ρ F1 H1) (r1 : Rp K F1 v d) (e2 : items d = .ok ds) : ∃ (k : SK) (xs : List V), k.Of v ∧ k.Has K H1 xs ∧ Walks K F1 (k.It K) ds := by
  cases d <;> first | (cases e2; done) | skip
  · cases e2
    rename_i z
    refine ⟨.s z, _, rp_str.mp r1, rfl, fun F2 H2 s2 s3 i => ⟨fun hi => ?_, fun d hd => ?_⟩⟩
    · show z.cps.size ≤ i
      rw [hi]; simp [chars]
    · have hi : i < z.cps.size := by
        have := (List.getElem?_eq_some_iff.mp hd).1
        simpa [chars] using this
      refine ⟨hi, fun x H3 hy => .inl ⟨hy.1, ?_⟩⟩
      obtain ⟨c, hc, rfl⟩ := hy.2
      unfold chars at hd
      rw [List.getElem?_map, Array.getElem?_toList, hc] at hd
      cases hd
      exact rp_str.mpr rfl
  · cases e2
    obtain ⟨a, xs, rfl, ha, r⟩ := rp_tup.mp r1
    refine ⟨.t a, xs, rfl, Same.seqT o1.sub ha, fun F2 H2 s2 s3 i => ⟨fun hi => ?_, fun d hd => ?_⟩⟩
    · exact ⟨xs, Same.seqT (s2.trans s3) ha, by rw [r.length, hi]; exact Nat.le_refl _⟩
    · obtain ⟨v, hv, rv⟩ := r.get hd
      refine ⟨⟨xs, v, Same.seqT (s2.trans s3) ha, hv⟩, fun x H3 hy => .inl ⟨hy.1, ?_⟩⟩
      have e := hy.2 xs (Same.seqT (s2.trans s3) ha)
      rw [hv] at e
      cases e
      exact rv.mono s2
  · cases e2
    obtain ⟨a, xs, rfl, ha, r⟩ := rp_lst.mp r1
    refine ⟨.l a, xs, rfl, SqL.of (o1.sub _ _ ha), fun F2 H2 s2 s3 i => ⟨fun hi => ?_, fun d hd => ?_⟩⟩
    · exact ⟨xs, SqL.of (s3 _ _ (s2 _ _ ha)), by rw [r.length, hi]; exact Nat.le_refl _⟩
    · obtain ⟨v, hv, rv⟩ := r.get hd
      refine ⟨⟨xs, v, SqL.of (s3 _ _ (s2 _ _ ha)), hv⟩, fun x H3 hy => .inl ⟨hy.1, ?_⟩⟩
      have e := hy.2 xs (SqL.of (s3 _ _ (s2 _ _ ha)))
      rw [hv] at e
      cases e
      exact rv.mono s2
  · cases e2
    obtain ⟨a, xs, rfl, ha, r⟩ := rp_rol.mp r1
    refine ⟨.l a, xs, rfl, o1.sub.seq ha, fun F2 H2 s2 s3 i => ⟨fun hi => ?_, fun d hd => ?_⟩⟩
    · exact ⟨xs, s3.seq (s2.seq ha), by rw [r.length, hi]; exact Nat.le_refl _⟩
    · obtain ⟨v, hv, rv⟩ := r.get hd
      refine ⟨⟨xs, v, s3.seq (s2.seq ha), hv⟩, fun x H3 hy => .inl ⟨hy.1, ?_⟩⟩
      have e := hy.2 xs (s3.seq (s2.seq ha))
      rw [hv] at e
      cases e
      exact rv.mono s2
  · cases e2
    obtain ⟨a, xs, rfl, ha, r⟩ := rp_ktup.mp r1
    refine ⟨.t a, xs, rfl, Same.kseqT o1.sub ha, fun F2 H2 s2 s3 i => ⟨fun hi => ?_, fun d hd => ?_⟩⟩
    · exact ⟨xs, Same.kseqT (s2.trans s3) ha, by rw [r.length, hi]; exact Nat.le_refl _⟩
    · obtain ⟨v, hv, rv⟩ := r.get hd
      refine ⟨⟨xs, v, Same.kseqT (s2.trans s3) ha, hv⟩, fun x H3 hy => .inl ⟨hy.1, ?_⟩⟩
      have e := hy.2 xs (Same.kseqT (s2.trans s3) ha)
      rw [hv] at e
      cases e
      exact rv.mono s2
end
def itemsS (d : D) : SM (List D) := SM.lift (items d)
theorem pi2_any {X : Cx} {E : WX} {l tg : Expr} {tl : TE} {f : En → SM D} (h : PE2 X E l tl f) : PI2 X E tg l (iAny X.K tl) (fun ρ => f ρ >>= itemsS) := by
  refine ⟨(haveI : Iota := ⟨[]⟩; pi_any h.pe), fun I W F0 σ ρ S F H Rk o g0 => ?_⟩
  refine h.de I W F0 σ ρ S F H _ o ((G2.of_bind g0).imp (fun d S1 g1 J v F1 H1 l1 o1 s1 r1 => ?_) fun _ _ h => h)
  obtain ⟨ds, e, k⟩ := G2.of_lift g1
  obtain ⟨V1, b1, _⟩ := id o1
  obtain ⟨kk, xs, a1, a2, a3⟩ := @walks_of J X.K V1 F0 F1 H1 σ ρ v d ds b1 r1 e
  exact ⟨kk, xs, a1, a2, k J _ F1 H1 l1 o1 s1 a3⟩
end DD

namespace DD
open PySem PySem.Spec PyProof.Rows L2

/-! ### dicts of the store: {} -/
section
variable {X : Cx} {E : WX} {pos : Pos}
theorem push_at (J : Iota) {S : Store} {p : Addr} (h : J.at_.length = S.length) : (J.push p).at_[S.length]? = some p := by
  show (J.at_ ++ [p])[S.length]? = some p
  rw [← h]; simp
theorem Ok2.lenI {I : Iota} {K : PySem.W.Frag} {S : Store} {W F0 F H : Hp} {σ : L2.St} {ρ : En} (o : Ok2 I K S W F0 σ ρ F H) : I.at_.length = S.length := by
  obtain ⟨_, _, st⟩ := o
  exact st.len
theorem pe2_dnewK : PE2 X E (.Dict [] [] pos) tDNewK (fun _ => SM.new (.dK [] [])) := by
  refine ⟨pe_dnewK, fun I W F0 σ ρ S F H Q o g0 => fun p hp => ?_⟩
  have o2 := o.alloc (u := .dK []) (ob := .dK [] []) hp fun V1 hV => ⟨[], hV, rfl, @Rps.nil I X.K F⟩
  exact g0 (I.push p) _ F _ (Iota.le_push I p) o2 (Same.refl _) ((@rp_ref (I.push p) X.K F _ _).mpr ⟨p, rfl, push_at I o.lenI⟩)
theorem pe2_dnewT : PE2 X E (.Dict [] [] pos) tDNewT (fun _ => SM.new (.dT [] [])) := by
  refine ⟨pe_dnewT, fun I W F0 σ ρ S F H Q o g0 => fun p hp => ?_⟩
  have o2 := o.alloc (u := .dT []) (ob := .dT [] []) hp fun V1 hV => ⟨[], hV, rfl, @Rps.nil I X.K F⟩
  exact g0 (I.push p) _ F _ (Iota.le_push I p) o2 (Same.refl _) ((@rp_ref (I.push p) X.K F _ _).mpr ⟨p, rfl, push_at I o.lenI⟩)
end
end DD

/-! SL16: an own exception's __init__: super().__init__(e); self.a = a; .. -/
namespace DD
open PySem PySem.Spec PyProof.Rows L2

/-- its names: the parameters are locals, __class__ is free, nothing else is stored -/
structure ScopeI (ps : List Str) (sc : Scope) : Prop where
  kind : sc.kind = .function
  co : sc.isCoroutine = false
  gen : sc.isGenerator = false
  nd : ps.Nodup
  par : ∀ x ∈ ps, sc.names.lookup x = some .local
  nocell : ∀ y ∈ sc.names, y.2 ≠ .cell
  free : ∀ y ∈ sc.names, y.2 = .free → y.1 = "__class__"
  cls : sc.names.lookup ("__class__" : Str) = some .free
  sup : sc.names.lookup ("super" : Str) = some .globalImplicit
def ScopeI.chk (ps : List Str) (sc : Scope) : Bool := sc.kind == .function && !sc.isCoroutine && !sc.isGenerator && decide ps.Nodup && ps.all (fun x => sc.names.lookup x == some .local) && sc.names.all (fun y => y.2 != .cell) && sc.names.all (fun y => y.2 != .free || y.1 == ("__class__" : Str)) &&
  sc.names.lookup ("__class__" : Str) == some .free && sc.names.lookup ("super" : Str) == some .globalImplicit
theorem ScopeI.of {ps : List Str} {sc : Scope} (h : ScopeI.chk ps sc = true) : ScopeI ps sc := by
  unfold ScopeI.chk at h
  simp only [Bool.and_eq_true, beq_iff_eq, Bool.not_eq_true', decide_eq_true_eq, List.all_eq_true, bne_iff_ne, Bool.or_eq_true] at h
  obtain ⟨⟨⟨⟨⟨⟨⟨⟨h1, h2⟩, h3⟩, h4⟩, h5⟩, h6⟩, h7⟩, h8⟩, h9⟩ := h
  refine ⟨h1, h2, h3, h4, fun x hx => h5 x hx, fun y hy => h6 y hy, fun y hy e => ?_, h8, h9⟩
  rcases h7 y hy with z | z
  · exact absurd e z
  · exact z

/-- its context -/
def cxI (P : Program) (w : World) (K : PySem.W.Frag) (mg : Str → Option Value) (base : Heap) (ps : List Str) (qual : Str) (scope : Scope) (f cda cc : Addr) (A : Around) (outer : List Env) (s : Shared) (H : Hp) (E : XK) : Cx where
  prog := P
  w := w
  K := K
  mg := mg
  base := base
  A := A.deeper (PySem.W.ksEnv qual scope s.heap.objs.size f (.ref cda) cc)
  N := ps
  s_0 := s
  H_0 := H
  env := PySem.W.ksEnv qual scope s.heap.objs.size f (.ref cda) cc
  outer := outer
  stack := PySem.W.ksEnv qual scope s.heap.objs.size f (.ref cda) cc :: outer
  ex := []
  calm := true
  fn := fun x => x != ("__class__" : Str)
  pn := []
  xe := fun e s' => wpAny (model P w) (A.deeper (PySem.W.ksEnv qual scope s.heap.objs.size f (.ref cda) cc)) (leaving (PySem.W.ksEnv qual scope s.heap.objs.size f (.ref cda) cc) e) (fun _ s'' => CX0 outer H s E e s'') (fun e' s'' => CX0 outer H s E e' s'') s'

/-- what the written part says of such a def and its class -/
structure SupC (P : Program) (K : PySem.W.Frag) (mg : Str → Option Value) (D cc cda : Addr) : Prop where
  cell : ∃ cl cld csl, K.lookup cc = some ⟨cl, cld, .cell (some (.ref D)), csl⟩
  code : ∃ ccl cdd vs ccs file tf, K.lookup cda = some ⟨ccl, cdd, .fields vs, ccs⟩ ∧ vs[2]? = some (.str file tf) ∧ ((P.main.file : Str) == file) = true
  top : (P.main.scope.names.lookup ("super" : Str)).isSome = false
  oex : OexC K D
  sup : PySem.W.ks_superIn K D D "__init__" = some (some (.builtin "ValueError.__init__"))
  isB : PySem.W.subIn K (.ref D) (.type "ValueError") = some true
  isD : PySem.W.mroIn K D (.ref D) = some true
  mgS : mg "super" = none
  opq : PySem.W.nsIn K cStatics "thirdparty.any" = some none

section
variable {P : Program} {w : World} {K : PySem.W.Frag} {mg : Str → Option Value} {base : Heap} {k : Nat} {f D cc cda : Addr} {qual : Str} {params : Arguments} {scope : Scope} {dV kV doc pm ct oc : Value} {an od : Option Addr} {osl : Array (Option Value)} {ps : List Str} {sp : Sp}
theorem inv_startI {A : Around} {outer : List Env} {s : Shared} {H : Hp} {E : XK} {us : List Value} {vs : List V} {h₀ : Heap} {tk : Nat} (S : ScopeI ps scope) (C : SupC P K mg D cc cda) (hd : A.handled = none) (e0 : Env0 P w K mg base A outer s H) (hl : vs.length = ps.length) (r : Vals vs us)
    (hns : h₀.Ns s.heap.objs.size (fun x => (ps.zip us).reverse.lookup x)) (hk : ∀ b o, s.heap.get? b = some o → h₀.get? b = some o) :
    Inv (cxI P w K mg base ps qual scope f cda cc A outer s H E) [] (vs.map some) H { s with heap := h₀, toks := tk } := by
  have KX : K.In s.heap := e0.mod.kin.keeps fun b o e => (e0.bs b o e).1
  obtain ⟨cl, cld, csl, hcell⟩ := C.cell
  have hcc : s.heap.get? cc = some ⟨cl, cld, .cell (some (.ref D)), csl⟩ := KX _ _ hcell
  have hcb : base.get? cc = some ⟨cl, cld, .cell (some (.ref D)), csl⟩ := e0.mod.kin _ _ hcell
  have look1 : ∀ {y : Str} {c : Addr}, List.lookup y [(("__class__" : Str), cc)] = some c → y = "__class__" ∧ c = cc := fun {y c} h => by
    rw [List.lookup_cons] at h
    cases hb : (y == ("__class__" : Str)) with
    | true =>
      rw [hb] at h
      exact ⟨beq_iff_eq.mp hb, (Option.some.inj h).symm⟩
    | false =>
      rw [hb] at h
      cases h
  have noA : ∀ b : Addr, b ∉ (cxI P w K mg base ps qual scope f cda cc A outer s H E).ex := fun b z => absurd (show b ∈ ([] : List Addr) from z) (by simp)
  refine ⟨⟨e0.mod, S.kind, rfl, rfl, Nat.le_refl _, fun y z c h1 h2 => (look1 h1).1.trans (look1 h2).1.symm, fun y hy => ?_, fun y c hf h => ?_, fun _ => hd, Around.frames_deeper e0.frames, .inr ⟨rfl, rfl⟩, fun b z => absurd z (noA b), e0.bs, e0.bsz, fun b _ _ => noA b, fun b z => absurd z (noA b), e0.funs, e0.frf⟩,
    rfl, e0.bare, Un.kept hk, ⟨_, hns, fun i y v h1 h2 h3 => ?_⟩, fun y c h => ?_, e0.hok.fresh (Nat.le_refl _), fun y c h => ?_, fun p hp => absurd (show p ∈ ([] : List (Addr × Obj)) from hp) (by simp), e0.hok.kept hk, ?_⟩
  · have hy : scope.names.lookup y = some .cell ∨ scope.names.lookup y = some .free := hy
    rcases hy with hy | hy
    · exact absurd rfl (S.nocell _ (PySem.mem_of_lookup hy))
    · have := S.free _ (PySem.mem_of_lookup hy) rfl
      subst this
      exact ⟨cc, rfl⟩
  · obtain ⟨rfl, _⟩ := look1 h
    exact absurd hf (by show ¬ ((("__class__" : Str) != ("__class__" : Str)) = true); simp)
  · have hm : y ∈ ps := List.mem_of_getElem? h1
    rw [List.getElem?_map] at h2
    cases e : vs[i]? with
    | none => rw [e] at h2; cases h2
    | some a =>
      rw [e] at h2
      cases h2
      obtain ⟨u, hu, rv⟩ := r.get e
      refine ⟨u, rv, .inl ⟨S.par y hm, ?_⟩⟩
      show (ps.zip us).reverse.lookup y = some u
      have hz : (ps.zip us)[i]? = some (y, u) := by rw [List.getElem?_zip_eq_some]; exact ⟨h1, hu⟩
      have lu : ps.length ≤ us.length := by rw [← hl, Paired.length r]; exact Nat.le_refl _
      have nd : ((ps.zip us).map (·.1)).Nodup := by rw [List.map_fst_zip lu]; exact S.nd
      have mem : (y, u) ∈ (ps.zip us).reverse := List.mem_reverse.mpr (List.mem_of_getElem? hz)
      have ndr : ((ps.zip us).reverse.map (·.1)).Nodup := by rw [List.map_reverse]; exact (List.reverse_perm _).nodup_iff.mpr nd
      have look_mem : ∀ (l : List (Str × Value)), (l.map (·.1)).Nodup → (y, u) ∈ l → l.lookup y = some u := by
        intro l
        induction l with
        | nil => intro _ h; cases h
        | cons p l ih =>
          intro nd h0
          obtain ⟨a, b⟩ := p
          rw [List.lookup_cons]
          rcases List.mem_cons.mp h0 with h | h'
          · cases h; simp
          · have ne : y ≠ a := fun z => (List.nodup_cons.mp nd).1 (List.mem_map.mpr ⟨(y, u), h', z⟩)
            have : (y == a) = false := by simpa using ne
            rw [this]
            exact ih (List.nodup_cons.mp nd).2 h'
      exact look_mem _ ndr mem
  · obtain ⟨rfl, rfl⟩ := look1 h
    exact ⟨_, _, hk _ _ hcc, rfl⟩
  · obtain ⟨rfl, rfl⟩ := look1 h
    exact (e0.bs _ _ hcb).2
  · show (vs.map some).length = ps.length
    rw [List.length_map, hl]
/-- self's name is the first parameter -/
def Self (params : Arguments) (x : Str) : Prop := ∃ ar : Arg, (params.posonlyargs ++ params.args).head? = some ar ∧ ar.arg = x
theorem fnI_ok {e : Expr} {rest : List Stmt} {p0 p1 ap cp ep : Pos} (lk : K.lookup f = some ⟨oc, od, .func (PySem.W.ksFn "__init__" qual params (.Expr (.Call (.Attribute (.Call (.Name "super" p0) [] [] p1) "__init__" ap) [e] [] cp) ep :: rest) scope dV kV doc pm an (.ref cda) ct cc), osl⟩)
    (hcd : PySem.W.codeIn K (.ref cda) qual = true) (S : ScopeI ps scope) (C : SupC P K mg D cc cda) (x0 : Str) (hself : Self params x0) (hps : ps.head? = some x0) (pl : Addr → Sem Bool)
    (hev : ∀ L : Addr, eval (.Call (.Attribute (.Call (.Name "super" p0) [] [] p1) "__init__" ap) [e] [] cp) (PySem.W.ksEnv qual scope L f (.ref cda) cc) = (do
      let ov ← attributeBase (.Call (.Name "super" p0) [] [] p1) "__init__" (PySem.W.ksEnv qual scope L f (.ref cda) cc) (eval (.Call (.Name "super" p0) [] [] p1) (PySem.W.ksEnv qual scope L f (.ref cda) cc))
      standAt ap.atName
      let (g, first) ← holding [ov] (getMethod ov "__init__" (pl L))
      callWith cp g first (backTo cp (starEach [e] (PySem.W.ksEnv qual scope L f (.ref cda) cc))) []))
    (hint : ∀ L : Addr, interactive (PySem.W.ksEnv qual scope L f (.ref cda) cc) = false)
    (hsw : ∀ L : Addr, swapsWith (.Call (.Attribute (.Call (.Name "super" p0) [] [] p1) "__init__" ap) [e] [] cp) none ep.line (PySem.W.ksEnv qual scope L f (.ref cda) cc) = pure false)
    (hst : ∀ L : Addr, starEach [e] (PySem.W.ksEnv qual scope L f (.ref cda) cc) = (false, eval e (PySem.W.ksEnv qual scope L f (.ref cda) cc)) :: starEach [] (PySem.W.ksEnv qual scope L f (.ref cda) cc)) (len : ∀ vs H Q E, sp vs H Q E → vs.length = ps.length)
    (hbody : ∀ (A : Around) (outer : List Env) (s : Shared) (H : Hp) (vs : List V) (Q : VK) (E : XK), Room k (A.deeper (PySem.W.ksEnv qual scope s.heap.objs.size f (.ref cda) cc)) → sp vs H Q E →
      ∃ te t, PE (cxI P w K mg base ps qual scope f cda cc A outer s H E) e te ∧ PSs (cxI P w K mg base ps qual scope f cda cc A outer s H E) rest t ∧ ∃ a ws, vs = .ref a :: ws ∧ H a = some (exo a D none) ∧
        te (vs.map some) H (fun x H1 => [x].length = 1 ∧ H1 a = some (exo a D none) ∧ t { nx := fun _ H' => Q .non H', rt := Q } (vs.map some) H1)) :
    FnOk P w K mg base CX0 (k + 1) f (PySem.W.ksFn "__init__" qual params (.Expr (.Call (.Attribute (.Call (.Name "super" p0) [] [] p1) "__init__" ap) [e] [] cp) ep :: rest) scope dV kV doc pm an (.ref cda) ct cc) ps sp := by
  refine ⟨len, fun A outer s H args us vs Q E hr e0 hb r hsp => ?_⟩
  have hl := len _ _ _ _ hsp
  have KX : K.In s.heap := e0.mod.kin.keeps fun b o e => (e0.bs b o e).1
  have lim : s.heap.NoLimit := e0.mod.nolimit.keeps fun b o e => (e0.bs b o e).1
  refine ks_codeAny_call_defAt (fd := PySem.W.ksFn "__init__" qual params (.Expr (.Call (.Attribute (.Call (.Name "super" p0) [] [] p1) "__init__" ap) [e] [] cp) ep :: rest) scope dV kV doc pm an (.ref cda) ct cc)
    (body := .Expr (.Call (.Attribute (.Call (.Name "super" p0) [] [] p1) "__init__" ap) [e] [] cp) ep :: rest) (binds := ps.zip us) hr.depth (KX _ _ lk) rfl lim (PySem.W.codeRec_of KX hcd) rfl hb S.nocell (fun y hy => S.par y.1 (List.of_mem_zip hy).1) (fun h₀ hns hk => ?_) S.co S.gen S.kind
  obtain ⟨te, t, he, ht, a, ws, rfl, ha, hq⟩ := hbody A outer s H vs Q E (hr.deeper _) hsp
  have I : Inv (cxI P w K mg base ps qual scope f cda cc A outer s H E) [] ((V.ref a :: ws).map some) H { s with heap := h₀, toks := s.toks + (ps.zip us).length } := inv_startI S C hr.hd e0 hl r hns hk
  have fin : ∀ {σ' : L2.St} {H' : Hp} {v : V} {u : Value} {s' : Shared}, Inv (cxI P w K mg base ps qual scope f cda cc A outer s H E) [] σ' H' s' → L2.RelV v u → Q v H' → CE outer P w H s Q u s' := fun {σ' H' v u s'} J rv q =>
    ⟨v, H', J.os, J.bare, J.base, J.hok, rv, q⟩
  obtain ⟨ar, har, rfl⟩ := hself
  obtain ⟨cl, cld, csl, hcell⟩ := C.cell
  obtain ⟨ccl, cdd, vf, ccs, file, tf, hcode, hvs, hfile⟩ := C.code
  have K0 : K.In h₀ := KX.keeps hk
  obtain ⟨t1, hobj⟩ := exo_at I.hok ha
  obtain ⟨nm, q, N, bs, bm, sn, sub, ab, col, dd, k0, k1, k2, k3, k5, hC, hbm⟩ := C.oex.cls
  have hcl : PySem.W.clsIn K D = some { name := nm, bases := bs, mro := .ref D :: bm, ns := N, qualname := q, hasDict := true, slotNames := sn, subclasses := sub, abstract := ab, collection := col, hasDel := false } := by unfold PySem.W.clsIn; rw [hC] <;> rfl
  have hD1 : h₀.get? D = some (excClassObj nm q D N bs bm true sn sub ab col dd k0 k1 k2 k3 k5 "ValueError.__new__") := K0 _ _ hC
  have hself0 : ar.arg ∈ ps := List.mem_of_head? hps
  obtain ⟨m, hnsL, hloc⟩ := I.loc
  have hself1 : m ar.arg = some (.ref a) := by
    have h0 : ps[0]? = some ar.arg := by rw [← List.head?_eq_getElem?]; exact hps
    obtain ⟨u, ru, lk'⟩ := hloc 0 ar.arg (.ref a) h0 rfl (.inl (S.par _ hself0))
    obtain rfl : u = Value.ref a := ru
    rcases lk' with ⟨_, z⟩ | ⟨z, _⟩
    · exact z
    · have z' : scope.names.lookup ar.arg = some .cell ∨ scope.names.lookup ar.arg = some .free := z
      rw [S.par _ hself0] at z'
      rcases z' with z' | z' <;> cases z'
  have hnI : PySem.W.InstAt h₀ a { cls := .ref D, dict := none, data := .fields #[.ref t1, .none, .none, .none, .bool false, .none] } D none := ⟨hobj, rfl, rfl, trivial⟩
  obtain ⟨mb, hb1, hb2⟩ := e0.mod.blt
  have kb : ∀ b o, base.get? b = some o → h₀.get? b = some o := fun b o e => hk b o (e0.bs b o e).1
  show _root_.PySem.wpAt (model P w) (A.deeper (PySem.W.ksEnv qual scope s.heap.objs.size f (.ref cda) cc)) (.func _ (PySem.W.ksEnv qual scope s.heap.objs.size f (.ref cda) cc)) (execs _ (PySem.W.ksEnv qual scope s.heap.objs.size f (.ref cda) cc)) _ _ _
  refine ks_wpAt_execs_cons (ks_wpAt_Expr_any (ks_wpAt_MethodCall (pl := pl s.heap.objs.size) ?_ (hev _)) (hint _) (hsw _))
  refine ks_wpAt_super_base (s := { s with heap := h₀, toks := s.toks + (ps.zip us).length }) (oc := ⟨ccl, cdd, .fields vf, ccs⟩) (env := PySem.W.ksEnv qual scope s.heap.objs.size f (.ref cda) cc) S.sup S.cls (by rfl) (by rfl) (K0 _ _ lk) (by rfl) har (by rfl) (K0 _ _ hcode) (by rfl) hvs hfile C.top ?_
  refine PySem.W.ks_loadName_global S.kind S.sup (Calls.loadGlobal_builtin (env := PySem.W.ksEnv qual scope s.heap.objs.size f (.ref cda) cc) (e0.mod.glob.keeps kb) C.mgS (hb1.keeps kb) ((hb2 "super" (by decide)).trans (by first | boot_by_name | rfl | kernel_rfl)) ⟨rfl, ?_⟩)
  refine wpAny_loadName_free S.kind S.cls rfl ⟨_, K0 _ _ hcell, rfl⟩ ?_
  refine wpAny_loadName_local S.kind (S.par _ hself0) hnsL hself1 ?_
  refine ks_wpAny_isType_cls hD1 rfl ⟨rfl, ?_⟩
  refine ks_wpAny_call_super hD1 rfl hobj rfl (fun c e => by cases e) (PySem.W.looks_mroIn K0 C.isD) (fun h1 hs1 k1 => ?_)
  have K1 : K.In h1 := K0.keeps k1
  have I1 := I.kept (t' := s.toks + (ps.zip us).length) k1
  have n1 : PySem.W.InstAt h1 a { cls := .ref D, dict := none, data := .fields #[.ref t1, .none, .none, .none, .bool false, .none] } D none := ⟨k1 _ _ hobj, rfl, rfl, trivial⟩
  have hsup := C.sup
  unfold PySem.W.ks_superIn at hsup
  rw [hcl] at hsup
  refine PySem.W.kxs_getMethod PySem.W.kxs_ValueError hs1 (PySem.W.looks_opaque K1 C.opq) (l₀ := .ref D :: bm) (fun A Q E s k q => wpAny_bind ((PySem.W.looks_clsIn K1 hcl) A _ E s k (wpAny_pure q))) rfl K1 hsup (n1.type.andThen (PySem.W.looks_subIn K1 C.isB)) (PySem.W.ks_ne K0 hnI hcl) (by decide) ?_
  have k2 : ∀ b o, h1.get? b = some o → (h1.push (PySem.W.kxs_mw "ValueError.__init__" a)).get? b = some o := fun b o e => Heap.get?_push_of_some _ e
  have hu : (h1.push (PySem.W.kxs_mw "ValueError.__init__" a)).get? h1.objs.size = some (PySem.W.kxs_mw "ValueError.__init__" a) := Heap.get?_push_at rfl rfl
  have I2 := I1.kept (t' := s.toks + (ps.zip us).length + 1) k2
  have hn2 : H h1.objs.size = none := I1.hok.fresh (Nat.le_refl _)
  have I3 : Inv (cxI P w K mg base ps qual scope f cda cc A outer s H E) [(h1.objs.size, PySem.W.kxs_mw "ValueError.__init__" a)] ((V.ref a :: ws).map some) H ⟨h1.push (PySem.W.kxs_mw "ValueError.__init__" a), s.gens, s.drawn, s.toks + (ps.zip us).length + 1, s.os⟩ := by
    refine ⟨I2.ok, I2.os, I2.bare, I2.base, I2.loc, I2.cell, I2.free, I2.freeC, fun p hp => ?_, I2.hok, I2.len⟩
    rcases List.mem_append.mp hp with hp | hp
    · exact absurd (show p ∈ ([] : List (Addr × Obj)) from hp) (by simp)
    · obtain rfl := List.mem_singleton.mp hp
      exact ⟨hu, hn2, Nat.ne_of_gt I1.lt, I1.nofs (Nat.le_refl _), fun v z => by cases z⟩
  show wpAny _ _ (callWith cp (.ref h1.objs.size) [] (backTo cp (starEach [e] (PySem.W.ksEnv qual scope s.heap.objs.size f (.ref cda) cc))) []) _ _ _
  have hpa := (pa_cons (X := cxI P w K mg base ps qual scope f cda cc A outer s H E) he pa_nil (hst _)).run cp [(h1.objs.size, PySem.W.kxs_mw "ValueError.__init__" a)] _ _ H (fun vs H1 => vs.length = 1 ∧ H1 a = some (exo a D none) ∧ t { nx := fun _ H' => Q .non H', rt := Q } ((V.ref a :: ws).map some) H1) I3 hq
  refine (show wpAny _ _ (callWith cp (.ref h1.objs.size) [] (backTo cp (starEach [e] (PySem.W.ksEnv qual scope s.heap.objs.size f (.ref cda) cc))) []) _ _ _ from ?_)
  have hst0 := hst s.heap.objs.size
  have hpa2 : wpAny (model P w) (A.deeper (PySem.W.ksEnv qual scope s.heap.objs.size f (.ref cda) cc)) (spliced (backTo cp (starEach [e] (PySem.W.ksEnv qual scope s.heap.objs.size f (.ref cda) cc)))) _ _ _ := hpa
  rw [hst0] at hpa2 ⊢
  refine PySem.W.kxs_callWith (i := "ValueError.__init__") (x := a) (by rfl) (PySem.Calls.evalArgs_plain (wpAny_mono hpa2 (fun us1 s2 hs2 => ?_) fun _ _ z => z))
  obtain ⟨vs1, H1, J1, rv1, hl1, ea1, q1⟩ := hs2
  obtain ⟨hu2, _⟩ := J1.pin (h1.objs.size, PySem.W.kxs_mw "ValueError.__init__" a) (List.mem_append_right _ List.mem_cons_self)
  refine ⟨hu2, ?_⟩
  obtain ⟨h2, g2, d2, tk2, os2⟩ := s2
  obtain ⟨t2, hobj2⟩ := exo_at J1.hok ea1
  have K2 : K.In h2 := J1.kIn
  have hlen : us1.length ≤ sizeLine := by
    rw [← Paired.length rv1, hl1, sizeLine_eq]
    decide
  have FB := F.excBase_ValueError
  refine wpAny_call (codeAny_of_tree ?_)
  show wpAny _ (A.deeper (PySem.W.ksEnv qual scope s.heap.objs.size f (.ref cda) cc)).in1 (callAny (.ref h1.objs.size) ⟨us1, []⟩) _ _ _
  simp only [callAny]
  refine wpAny_bind (wpAny_load hu2 ?_)
  simp only [PySem.W.kxs_mw, show (Value.type "method-wrapper" == Value.type "method" || Value.type "method-wrapper" == Value.type "builtin_function_or_method" || Value.type "method-wrapper" == Value.type "method-wrapper") = true by decide, if_true]
  refine PySem.W.KFB.if_so (by decide) ?_
  refine wpAny_bind (PySem.W.check_bound_init FB.toExcCallFacts (K2 _ _ hC) hobj2 rfl ?_)
  refine wpAny_bind (wpAny_pure (wpAny_pure ?_))
  refine ⟨plainId_quiet FB.init.plain _, codeAny_builtin FB.initEntry ?_⟩
  refine PySem.W.exc_init_tree (cls := .ref D) (t0 := t2) (dv := none) (c2 := .none) (c3 := .none) (b4 := .bool false) hobj2 hlen (fun h3 k3 e3 _ => ?_)
  have J2 := J1.write (t' := tk2) (x := a) (e := a) (o := exo a D none) (by rw [ea1]; exact True.intro) (.inl rfl) k3 ⟨_, e3⟩ (exo_ok e3)
  have eu : upd H1 a (exo a D none) = H1 := by
    funext b
    by_cases hb : b = a
    · rw [hb, upd_same, ea1]
    · rw [upd_ne hb]
  rw [eu] at J2
  have J3 : Inv (cxI P w K mg base ps qual scope f cda cc A outer s H E) [] ((V.ref a :: ws).map some) H1 ⟨h3, g2, d2, tk2, os2⟩ :=
    ⟨J2.ok, J2.os, J2.bare, J2.base, J2.loc, J2.cell, J2.free, J2.freeC, fun p hp => J2.pin p (List.mem_append_left _ ((List.mem_append.mp hp).resolve_right (by simp))), J2.hok, J2.len⟩
  show _root_.PySem.wpAt (model P w) (A.deeper (PySem.W.ksEnv qual scope s.heap.objs.size f (.ref cda) cc)) _ (execs rest (PySem.W.ksEnv qual scope s.heap.objs.size f (.ref cda) cc)) _ _ _
  refine PySem.wpAt_of_wpAny (wpAny_mono (ht.run [] _ _ H1 _ J3 q1) (fun fl s' hs => ?_) fun e s' hs => hs)
  cases fl with
  | ret u =>
    obtain ⟨v, σ', H', J, rv, q⟩ := hs
    exact fin J rv q
  | next =>
    obtain ⟨σ', H', J, q⟩ := hs
    exact fin (v := V.non) (u := Value.none) J rfl q
  | brk =>
    obtain ⟨_, _, _, q⟩ := hs
    exact False.elim q
  | cont =>
    obtain ⟨_, _, _, q⟩ := hs
    exact False.elim q
end
end DD

/-! SL17: raise C(e, ..), C with such an __init__ -/
namespace DD
open PySem PySem.Spec PyProof.Rows L2

/-- an __init__'s promise: the fields are the arguments, under the names ns -/
def spE (K : PySem.W.Frag) (D : Addr) (ns : List Str) (g : List DD.D → R Unit) : Sp := fun vs H Q _ => ∃ (I : Iota) (F : Hp) (a : Addr) (ws : List V) (ds : List DD.D), vs = .ref a :: ws ∧ ws.length = ns.length ∧ H a = some (exo a D none) ∧ F a = none ∧ Same F H ∧ @Rps I K F ws ds ∧ g ds = .ok () ∧
  ∀ (F' H' : Hp) (dx : Addr), OkB H F F' H' → H' dx = none → Q .non (upd (upd H' dx (exd dx (ns.zip ws).reverse)) a (exo a D (some dx)))
theorem spE_len {K : PySem.W.Frag} {D : Addr} {ns : List Str} {g : List DD.D → R Unit} {x0 : Str} {vs : List V} {H : Hp} {Q : VK} {E : XK} (h : spE K D ns g vs H Q E) : vs.length = (x0 :: ns).length := by
  obtain ⟨_, _, _, ws, _, rfl, l, _⟩ := h
  simp [l]
theorem upd_twice {H : Hp} {a : Addr} {o u : HO} : upd (upd H a o) a u = upd H a u := by
  funext b
  by_cases h : b = a
  · subst h; rw [upd_same, upd_same]
  · rw [upd_ne h, upd_ne h, upd_ne h]
theorem upd_swap {H : Hp} {a b : Addr} {o u : HO} (h : a ≠ b) : upd (upd H a o) b u = upd (upd H b u) a o := by
  funext c
  by_cases ha : c = a
  · subst ha; rw [upd_ne h, upd_same, upd_same]
  · by_cases hb : c = b
    · subst hb; rw [upd_same, upd_ne ha, upd_same]
    · rw [upd_ne hb, upd_ne ha, upd_ne ha, upd_ne hb]
section
variable {X : Cx} {D a dx : Addr} {H : Hp} {f1 f2 : Str} {y1 y2 : V} {σ : L2.St} {En : Ends}
/-- the fields' stores, read -/
theorem ost1 (T : OexC X.K D) (n1 : PySem.W.findIn X.K (.ref D) f1 = some none) (h0 : σ[0]? = some (some (.ref a))) (h1 : σ[1]? = some (some y1)) (ha : H a = some (exo a D none))
    (hq : ∀ dx, H dx = none → En.nx σ (upd (upd H dx (exd dx [(f1, y1)])) a (exo a D (some dx)))) : tOst X.K f1 (tVar 0) (tVar 1) En σ H :=
  ⟨y1, h1, .ref a, h0, a, D, rfl, T, n1, .inl ⟨ha, fun dx n ne => hq dx n⟩⟩
theorem ost2 (T : OexC X.K D) (n1 : PySem.W.findIn X.K (.ref D) f1 = some none) (n2 : PySem.W.findIn X.K (.ref D) f2 = some none) (h0 : σ[0]? = some (some (.ref a))) (h1 : σ[1]? = some (some y1)) (h2 : σ[2]? = some (some y2)) (ha : H a = some (exo a D none))
    (hq : ∀ dx, H dx = none → En.nx σ (upd (upd H dx (exd dx [(f2, y2), (f1, y1)])) a (exo a D (some dx)))) : tSeq (tOst X.K f1 (tVar 0) (tVar 1)) (tOst X.K f2 (tVar 0) (tVar 2)) En σ H := by
  refine ⟨y1, h1, .ref a, h0, a, D, rfl, T, n1, .inl ⟨ha, fun dx n ne => ?_⟩⟩
  refine ⟨y2, h2, .ref a, h0, a, D, rfl, T, n2, .inr ⟨dx, [(f1, y1)], upd_same, by rw [upd_ne ne, upd_same], by simp, ?_⟩⟩
  have e : upd (upd (upd H dx (exd dx [(f1, y1)])) a (exo a D (some dx))) dx (exd dx [(f2, y2), (f1, y1)]) = upd (upd H dx (exd dx [(f2, y2), (f1, y1)])) a (exo a D (some dx)) := by
    rw [upd_swap (Ne.symm ne), upd_twice]
  rw [e]
  exact hq dx n
end
section
variable {P : Program} {w : World} {K : PySem.W.Frag} {mg : Str → Option Value} {base : Heap} {f D cc cda : Addr} {qual : Str} {scope : Scope} {A : Around} {outer : List Env} {s : Shared} {H : Hp} {E : XK} {Q : VK} {e : Expr} {rest : List Stmt} {ns : List Str} {te : TE} {t : TS} {fe : En → R DD.D} {ps : List Str}
theorem ok_init {I : Iota} {K : PySem.W.Frag} {F H : Hp} {a : Addr} {ws : List V} {ds : List DD.D} (s : Same F H) (r : @Rps I K F ws ds) : @Ok I K H F ((V.ref a :: ws).map some) (.un :: ds.map .fz) F H := by
  refine @Ok.mk I K H F _ _ F H ⟨s, Same.refl _, Same.refl _, fun _ _ _ _ h => h⟩ (by simp [@Rps.length I K F ws ds r]) (fun i o sl h1 h2 => ?_) (fun i j p es es' h1 => ?_)
  · cases i with
    | zero =>
      cases h2
      trivial
    | succ i =>
      rw [List.getElem?_cons_succ, List.getElem?_map] at h2
      rw [List.map_cons, List.getElem?_cons_succ, List.getElem?_map] at h1
      cases e1 : ds[i]? with
      | none => rw [e1] at h2; cases h2
      | some d =>
        rw [e1] at h2
        cases h2
        obtain ⟨v, e2, rv⟩ := @Rps.get I K F ws ds i d r e1
        rw [e2] at h1
        cases h1
        exact ⟨v, rfl, rv⟩
  · cases i with
    | zero => cases h1
    | succ i =>
      rw [List.getElem?_cons_succ, List.getElem?_map] at h1
      cases e1 : ds[i]? with
      | none => rw [e1] at h1; cases h1
      | some d => rw [e1] at h1; cases h1
/-- the guard: the text can be made -/
def gE (fe : En → R DD.D) (ds : List DD.D) : R Unit := fe (.un :: ds.map .fz) >>= fun _ => .ok ()
theorem init_body {vs : List V} (he : ∀ I : Iota, @PD I (cxI P w K mg base ps qual scope f cda cc A outer s H E) e te fe) (ht : PSs (cxI P w K mg base ps qual scope f cda cc A outer s H E) rest t)
    (hrd : ∀ (a : Addr) (ws : List V) (H' : Hp), ws.length = ns.length → H' a = some (exo a D none) → (∀ dx, H' dx = none → Q .non (upd (upd H' dx (exd dx (ns.zip ws).reverse)) a (exo a D (some dx)))) → t { nx := fun _ H' => Q .non H', rt := Q } ((V.ref a :: ws).map some) H')
    (h : spE K D ns (gE fe) vs H Q E) :
    ∃ te t, PE (cxI P w K mg base ps qual scope f cda cc A outer s H E) e te ∧ PSs (cxI P w K mg base ps qual scope f cda cc A outer s H E) rest t ∧ ∃ a ws, vs = .ref a :: ws ∧ H a = some (exo a D none) ∧
        te (vs.map some) H (fun x H1 => [x].length = 1 ∧ H1 a = some (exo a D none) ∧ t { nx := fun _ H' => Q .non H', rt := Q } (vs.map some) H1) := by
  obtain ⟨I, F, a, ws, ds, rfl, l, ha, fa, sF, r, hg, hq⟩ := h
  refine ⟨te, t, @PD.pe I _ e te fe (he I), ht, a, ws, rfl, ha, ?_⟩
  obtain ⟨d, e1, _⟩ := R.of_bind hg
  refine @PD.de I _ e te fe (he I) H F _ _ F H d _ (ok_init sF r) e1 fun v F' H' o' s' r' => ?_
  have ob := @Ok.toOkB I K H F _ _ F' H' o'
  have ha' : H' a = some (exo a D none) := ob.wld _ _ ha
  exact ⟨rfl, ha', hrd a ws H' l ha' fun dx n => hq F' H' dx ob n⟩
end

/-! ### raise -/
theorem Ok2.raised {I : Iota} {K : PySem.W.Frag} {S : Store} {W F0 F H F' H' : Hp} {σ : L2.St} {ρ : En} {a dx D : Addr} {fs : List (Str × V)} (o : Ok2 I K S W F0 σ ρ F H) (hn : H a = none) (ob : OkB (upd H a (exo a D none)) F F' H') (hd : H' dx = none) :
    Ok2 I K S W F0 σ ρ (upd F' dx (.xd fs)) (upd (del (upd (upd H' dx (exd dx fs)) a (exo a D (some dx))) a) dx (.xd fs)) ∧ Same F (upd F' dx (.xd fs)) := by
  obtain ⟨W1, b1, st⟩ := o
  have bk := @Ok.toOkB I K W1 F0 σ ρ F H b1
  have ne : dx ≠ a := fun z => by
    have := ob.wld a _ (upd_same (H := H) (a := a) (o := exo a D none))
    rw [z, this] at hd; cases hd
  have hF : F a = none := Same.free bk.sub hn
  have hF' : F' a = none := ob.new a (exo a D none) (fun _ z => exo_tup z) upd_same hF
  have hFd : F' dx = none := Same.free ob.sub hd
  have up : ∀ b x, H b = some x → b ≠ a ∧ H' b = some x ∧ b ≠ dx := fun b x e => by
    have nb : b ≠ a := fun z => by rw [z, hn] at e; cases e
    have e' := ob.wld b x (by rw [upd_ne nb]; exact e)
    exact ⟨nb, e', fun z => by rw [z, hd] at e'; cases e'⟩
  have g1 : ∀ b x, b ≠ a → b ≠ dx → H' b = some x → upd (del (upd (upd H' dx (exd dx fs)) a (exo a D (some dx))) a) dx (.xd fs) b = some x := fun b x na nd e => by
    rw [upd_ne nd, del_ne na, upd_ne na, upd_ne nd]; exact e
  have sF : Same F (upd F' dx (.xd fs)) := ob.ext.trans (same_upd hFd)
  refine ⟨Ok2.after b1 st (@Ok.step I K W1 F F _ H _ σ ρ (@Ok.self I K W1 F0 F H σ ρ b1) sF (fun b x e => ?_) (fun b x e => ?_) (fun b x nt e f => ?_)) sF, sF⟩
  · obtain ⟨na, e', nd⟩ := up b x e
    exact g1 b x na nd e'
  · by_cases hb : b = dx
    · subst hb; rw [upd_same] at e ⊢; exact e
    · rw [upd_ne hb] at e
      exact g1 b x (fun z => by rw [z, hF'] at e; cases e) hb (ob.sub b x e)
  · obtain ⟨na, e', nd⟩ := up b x e
    rw [upd_ne nd]
    exact ob.new b x nt (by rw [upd_ne na]; exact e) f
def yRaise (C : Addr) (ns : List Str) (g : List DD.D → R Unit) (fa : En → SM (List DD.D)) : En → SO := fun ρ => sm (fa ρ) ρ fun ds S => if ds.length = ns.length ∧ ds.length ≤ 1000 then (match g ds with
  | .ok _ => .ex ⟨C, true, ns.reverse, ds.reverse⟩ ρ S
  | _ => .bad) else .bad
theorem rps_reverse {I : Iota} {K : PySem.W.Frag} {F : Hp} {vs : List V} {ds : List DD.D} (r : @Rps I K F vs ds) : @Rps I K F vs.reverse ds.reverse := by
  have l := @Rps.length I K F vs ds r
  refine @Rps.of I K F vs.reverse ds.reverse (by simp [l]) fun i v d h1 h2 => ?_
  have hi : i < vs.length := by have := (List.getElem?_eq_some_iff.mp h1).1; simpa using this
  rw [List.getElem?_reverse hi] at h1
  rw [List.getElem?_reverse (by omega)] at h2
  rw [← l] at h2
  obtain ⟨d', e, rv⟩ := @Rps.getV I K F vs ds _ v r h1
  rw [h2] at e
  cases e
  exact rv
theorem zip_reverse {α β : Type} : ∀ {xs : List α} {ys : List β}, xs.length = ys.length → (xs.zip ys).reverse = xs.reverse.zip ys.reverse
  | [], [], _ => rfl
  | [], _ :: _, h => by simp at h
  | _ :: _, [], h => by simp at h
  | x :: xs, y :: ys, h => by
    have h' : xs.length = ys.length := by simpa using h
    rw [List.zip_cons_cons, List.reverse_cons, List.reverse_cons, List.reverse_cons, zip_reverse h', List.zip_append (by simpa using h')]
    rfl
theorem ps2_raise {X : Cx} {E : WX} {x : Str} {C fI : Addr} {k : Nat} {fd : FuncData} {ps : List Str} {ns : List Str} {g : List DD.D → R Unit} {e : Expr} {es : List Expr} {ta : TA} {fa : En → SM (List DD.D)} {p pos pos' : Pos}
    (T : OexC X.K C) (iC : PySem.W.findIn X.K (.ref C) "__init__" = some (some (.ref fI))) (tI : PySem.W.typeIn X.K (.ref fI) = some (.type "function")) (F1 : FnOk X.prog X.w X.K X.mg X.base CX0 k fI fd ps (spE X.K C ns g)) (hr : Room (k + 1) X.A) (hb : Binds X.K fd ps [])
    (hc : X.calm = true) (tk : Takes X E) (hm : X.mg x = some (.ref C)) (ha : PA2 X E (e :: es) ta fa) (hg : Gl X x := by rfl)
    (hdb : (x == ("__debug__" : Str)) = false := by decide) (he : starEach (e :: es) X.env = (false, eval e X.env) :: starEach es X.env := by rfl) (hpl : (backTo pos (starEach es X.env)).any (·.1) = false := by rfl) :
    PS2 X E (.Raise (some (.Call (.Name x p) (e :: es) [] pos)) none pos') (fun _ σ H => tMkO C (spE X.K C ns g) [] ta σ H fun cls d H' => E cls d σ H') (yRaise C ns g fa) := by
  refine ⟨ps_raise hc tk (pmk_oex T iC tI F1 hr hb .nil (fun _ _ _ _ _ _ _ z => z.elim) hg hm ha.pe hdb he hpl), fun I W F0 σ ρ S F H D o q => ?_⟩
  refine ha.de I W F0 σ ρ S F H _ o ((sm_g q).imp (fun ds S1 g1 J vs F1 H1 l1 o1 s1 r1 => ?_) fun _ _ h => h)
  have hl := @Rps.length J X.K F1 vs ds r1
  by_cases hd : ds.length = ns.length ∧ ds.length ≤ 1000
  · rw [if_pos hd] at g1
    refine ⟨by rw [hl]; exact hd.2, fun a hn => ?_⟩
    cases hg : g ds with
    | bad => rw [hg] at g1; exact g1.elim
    | err x => rw [hg] at g1; exact g1.elim
    | ok u =>
      rw [hg] at g1
      have sub : Same F1 H1 := by obtain ⟨V, b, _⟩ := id o1; exact (@Ok.toOkB J X.K V F0 σ ρ F1 H1 b).sub
      have fa0 : F1 a = none := Same.free sub hn
      refine ⟨J, F1, a, vs, ds, by simp, by rw [hl]; exact hd.1, upd_same, fa0, fun b x e => by rw [upd_ne (fun z => by rw [z, fa0] at e; cases e)]; exact sub b x e, r1, hg, fun F' H' dx ob hdx => ?_⟩
      obtain ⟨o2, s2⟩ := o1.raised (fs := (ns.zip vs).reverse) hn ob hdx
      have ne : dx ≠ a := fun z => by
        have := ob.wld a _ (upd_same (H := H1) (a := a) (o := exo a C none))
        rw [z, this] at hdx; cases hdx
      have hd1 : H1 dx = none := by
        cases e : H1 dx with
        | none => rfl
        | some x =>
          have := ob.wld dx x (by rw [upd_ne ne]; exact e)
          rw [hdx] at this; cases this
      refine ⟨rfl, dx, _, upd_same, by rw [upd_ne ne, upd_same], hd1, ?_⟩
      refine g1 J σ _ _ _ _ l1 o2 ⟨rfl, .inr ⟨rfl, dx, vs.reverse, rfl, ?_, by simp [hl, hd.1], @Rps.mono J X.K F1 _ s2 _ _ (rps_reverse r1)⟩⟩
      rw [upd_same, zip_reverse (by rw [hl, hd.1])]
  · rw [if_neg hd] at g1
    exact g1.elim
end DD

/-! SL18: try: .. except C as n: .. (several clauses); the caught exception is frozen data -/
namespace DD
open PySem PySem.Spec PyProof.Rows L2

/-- what the clauses wish of an exception of the body -/
def wM (K : PySem.W.Frag) (Wout : WX) (D : Ends) : List (Value × Nat × TS) → WX
  | [] => Wout
  | (c, i, ts) :: r => fun cls d σ H => ∃ b, PySem.W.exmOne K cls c = some b ∧ (b = true → ∀ a C, cls = .ref C → H a = none → ts { nx := fun σ' H' => D.nx (σ'.set i none) H', rt := D.rt, bk := fun σ' H' => D.bk (σ'.set i none) H', ct := fun σ' H' => D.ct (σ'.set i none) H' } (σ.set i (some (.ref a))) (upd H a (exq a C d))) ∧
    (b = true → ∃ C, cls = .ref C) ∧ (b = false → wM K Wout D r cls d σ H)
inductive HdOk (X : Cx) : List ExceptHandler → List (Value × Nat × TS) → Prop
  | nil : HdOk X [] []
  | cons {x n : Str} {c : Value} {i : Nat} {ts : TS} {b₀ : Stmt} {suite : List Stmt} {np pos' : Pos} {hds : List ExceptHandler} {l : List (Value × Nat × TS)} (hc : Names X x c) (hi : X.N[i]? = some n) (hln : X.env.kindOf n = some .local)
      (hsu : ∀ (a : Addr) (pn : List (Addr × Obj)), PSs (X.suite a pn) (b₀ :: suite) ts) (r : HdOk X hds l) :
      HdOk X (.ExceptHandler (some (.Name x np)) (some n) (b₀ :: suite) pos' :: hds) ((c, i, ts) :: l)
section
variable {X : Cx} {pins : List (Addr × Obj)} {σ : L2.St} {H : Hp} {s : Shared}
/-- the caught exception is tracked -/
theorem Inv.caught (I : Inv X pins σ H s) {a C : Addr} {d : Option Addr} {oe : Obj} {vs : Array Value} (ha : s.heap.get? a = some oe) (hz : Zc (.ref C) d oe) (hd : oe.data = .fields vs) (na : H a = none) (nL : a ≠ X.env.locals) (h0 : X.s_0.heap.get? a = none) (hp : ∀ p ∈ X.pn ++ pins, p.1 ≠ a) :
    Inv (X.suite a (X.pn ++ pins)) [] σ (upd H a (exq a C d)) s := by
  have ne : ∀ {b : Addr} {u : HO}, H b = some u → b ≠ a := fun {b u} e z => by rw [z, na] at e; cases e
  refine ⟨I.ok.suite _ _, I.os, I.bare, ⟨I.base.keep, I.base.slot, fun b o e n hx => ?_, I.base.there, fun b xs e => ?_, fun b o u e => ?_, fun b ps e => ?_⟩, I.loc, I.cell, ?_, fun x c e => ?_, fun p hp' => ?_, fun b o e => ?_, I.len⟩
  · have nb : b ≠ a := fun z => by rw [z, h0] at e; cases e
    rw [upd_ne nb]
    exact I.base.free b o e n hx
  · have := I.base.tups b xs e
    rw [upd_ne (ne this)]; exact this
  · have := I.base.frzs b o u e
    rw [upd_ne (ne this)]; exact this
  · obtain ⟨more, this⟩ := I.base.tbls b ps e
    exact ⟨more, by rw [upd_ne (ne this)]; exact this⟩
  · show upd H a (exq a C d) X.env.locals = none
    rw [upd_ne (Ne.symm nL)]; exact I.free
  · have nc : c ≠ a := fun z => by
      obtain ⟨v, o, ho, hdd⟩ := I.cell x c e
      rw [z, ha] at ho
      cases ho
      rw [hd] at hdd
      cases hdd
    rw [upd_ne nc]
    exact I.freeC x c e
  · have hm : p ∈ X.pn ++ pins := by rw [List.append_nil] at hp'; exact hp'
    obtain ⟨q1, q2, q3, q4, q5⟩ := I.pin p hm
    exact ⟨q1, by rw [upd_ne (hp p hm)]; exact q2, q3, q4, q5⟩
  · by_cases hb : b = a
    · subst hb
      rw [upd_same] at e
      cases e
      refine ⟨⟨oe, ha, hz.1, hz.2, vs, hd⟩, ⟨_, ha⟩, fun h1 h2 z k => ?_⟩
      obtain ⟨o', e1, r⟩ := z
      exact ⟨o', k _ e1, r⟩
    · rw [upd_ne hb] at e
      exact (I.hok b o e).stay (fun c v _ q => q) (fun c q => by rw [upd_ne (ne q)]; exact q) fun c xs q => by rw [upd_ne (ne q)]; exact q
theorem Inv.uncaught {a : Addr} {pn' : List (Addr × Obj)} (I : Inv (X.suite a (X.pn ++ pins)) pn' σ H s) (ok : X.Ok) : Inv X pins σ H s :=
  ⟨ok, I.os, I.bare, I.base, I.loc, I.cell, I.free, I.freeC, fun p hp => I.pin p (List.mem_append_left _ hp), I.hok, I.len⟩
end
section
variable {X : Cx} {body : List Stmt} {h₀ : ExceptHandler} {hds : List ExceptHandler} {l : List (Value × Nat × TS)} {pos : Pos} {tb : WX → TS} {Wout : WX}
theorem ps_tryM (hs : X.stack = X.env :: X.outer) (hf : X.env.frame = some X.env.locals) (hex : X.ex = []) (hN : X.N.Nodup) (tk : Takes X Wout)
    (hb : ∀ (W : WX) (pn : List (Addr × Obj)) (xe : Value → Shared → Prop), Takes (X.tr pn xe) W → PassesOwn (model X.prog X.w) X.A X.env xe → PSs (X.tr pn xe) body (tb W))
    (hh : HdOk X (h₀ :: hds) l) : PS X (.Try body (h₀ :: hds) [] [] pos) (fun D σ H => tb (wM X.K Wout D l) D σ H) := by
  refine ⟨fun pins s σ H D I h => ?_⟩
  have ok := I.ok
  have hfr : X.A.frames = some (X.env :: X.outer) := by rw [ok.frames, hs]
  refine wpAny_Try_except ?_
  refine wpAny_mono ((hb (wM X.K Wout D l) (X.pn ++ pins) (fun e s₁ => wpAny (model X.prog X.w) X.A (noteFrame e X.env) (fun _ s₂ => wpAny (model X.prog X.w) X.A (setFlight e none) (fun _ s₃ =>
    wpAny (model X.prog X.w) X.A (handleBy e X.env (h₀ :: hds)) (SP X pins D) X.xe s₃) X.xe s₂) X.xe s₁) (fun u s' xx => ?_) PassesOwn.looking).run [] s σ H D (I.toTry _) h) (fun f s1 hsp => ?_) (fun e s1 he => he)
  · obtain ⟨a, B, sI, pins', σ', H', cls, d, rfl, J', nb, up, sky, na, os, ag, w⟩ := xx
    have J : Inv X pins σ' H' sI := J'.ofTry ok
    have sky' : Sky B (X.env :: X.outer) a (Zc cls d) X.env.locals s'.heap := by rw [← hs]; exact sky
    show wpAny (model X.prog X.w) X.A (noteFrame (.ref a) X.env) _ _ _
    refine Sky.land Zc.steady hfr hf sky' fun h3 fl3 up3 => ?_
    have J3 : Inv X pins σ' H' { s' with heap := h3 } := J.landed nb fl3.1 (up.trans up3) os ag
    obtain ⟨oe3, vs3, he3, hz3, hd3⟩ := fl3.there
    have notFr : ∀ {h : Heap} {o : Obj} {vs : Array Value}, h.FunFrames B (X.env :: X.outer) → h.get? a = some o → o.data = .fields vs → a ∉ frs (X.env :: X.outer) := fun {h o vs} ff e dd hm => by
      obtain ⟨_, o', e', hnf⟩ := ff.mem hm
      rw [e] at e'; cases e'
      exact hnf _ dd
    have nfr := notFr fl3.2.2.1 he3 hd3
    have nL : a ≠ X.env.locals := fun z => nfr (List.mem_filterMap.mpr ⟨X.env, List.mem_cons_self, by rw [hf, z]⟩)
    have nF : a ∉ X.fs := fun hm => by
      obtain ⟨e, he, q⟩ := List.mem_filterMap.mp hm
      exact nfr (List.mem_filterMap.mpr ⟨e, List.mem_cons_of_mem _ he, q⟩)
    have aI : sI.heap.get? a = none := by
      cases e : sI.heap.get? a with
      | none => rfl
      | some o =>
        have := nb a o e (by show a ∉ frs X.stack; rw [hs]; exact nfr)
        rw [fl3.2.1] at this; cases this
    have a0 : X.s_0.heap.get? a = none := by
      cases e : X.s_0.heap.get? a with
      | none => rfl
      | some o =>
        obtain ⟨o', e'⟩ := J.base.there a o e (by rw [hex]; simp)
        rw [aI] at e'; cases e'
    have aP : ∀ p ∈ X.pn ++ pins, p.1 ≠ a := fun p hp z => by
      have := (J.pin p hp).1
      rw [z, aI] at this; cases this
    have S3 := J3.suite he3 hd3 na nL nF
    have go : ∀ {hds' : List ExceptHandler} {l' : List (Value × Nat × TS)}, HdOk X hds' l' → wM X.K Wout D l' cls d σ' H' →
        wpAny (model X.prog X.w) X.A (handleBy (.ref a) X.env hds') (SP X pins D) X.xe { s' with heap := h3 } := by
      intro hds' l' hk
      induction hk with
      | nil =>
        intro w
        refine wpAny_handleBy_nil ?_
        obtain ⟨k1, k2, k3, oe, vs, T, oT, ts', he, hz, hd, h1, hr⟩ := id fl3
        unfold PySem.passOn
        refine wpAny_bind (wpAny_field he hd h1 ?_)
        rw [if_neg (show ¬ ((Value.ref T == Value.none) = true) from by simp)]
        have fin : wpAny (model X.prog X.w) X.A (setFlight (.ref a) X.env.frame) (fun _ s4 => wpAny (model X.prog X.w) X.A (throw (.ref a) : Sem Flow) (SP X pins D) X.xe s4) X.xe { s' with heap := h3 } := by
          rw [hf]
          refine HandSPX.setFlight_upZ fl3 fun h4 hh4 up4 => wpAny_throw (tk _ _ ?_)
          exact ⟨a, B, sI, pins, σ', H', cls, d, rfl, J, nb, (up.trans up3).trans up4, .inr (.inr (by rw [hs]; exact hh4)), na, os, ag, w⟩
        first
          | exact wpAny_bind (wpAny_pure (wpAny_bind fin))
          | exact wpAny_bind fin
      | @cons x n c i ts b₀ suite np pos' hds2 l2 hc hi hln hsu r ih =>
        intro w
        obtain ⟨b, hb1, hyes, hcl, hno⟩ := w
        refine wpAny_handleBy_cons (codeAny_handlers_test ?_) (by intro q; cases q)
        have LT : PySem.W.Looks (model X.prog X.w) h3 (typeOf (.ref a)) cls := fun A Q E s k q => wpAny_typeOf_ref (k _ _ he3) (by rw [hz3.1]; exact q)
        have LM := PySem.W.exm_one (M := model X.prog X.w) (J3.kIn) LT hb1
        have test : ∀ {Q : Value → Shared → Prop} {E : Value → Shared → Prop}, Q c { s' with heap := h3 } → wpAny (model X.prog X.w) (X.A.mark (some (.ref a))) (eval (.Name x np) X.env) Q E { s' with heap := h3 } := fun {Q E} q => by
          obtain ⟨hg, hdbg, hm | ⟨hm, hv, hnn⟩⟩ := hc
          · exact ld_glob (X := X.suite a ((a, oe3) :: (X.pn ++ pins))) S3 hg hm q hdbg
          · exact ld_blt (X := X.suite a ((a, oe3) :: (X.pn ++ pins))) S3 hg hm hv q hnn hdbg
        refine test (LM.here ?_)
        cases b with
        | true =>
          refine codeAny_handlers_suite_as ?_
          refine HandSPX.lands_againZ fl3 fun h4 fl4 up4 => ?_
          have J4 : Inv X pins σ' H' { s' with heap := h4 } := J.landed nb fl4.1 ((up.trans up3).trans up4) os ag
          obtain ⟨oe4, vs4, he4, hz4, hd4⟩ := fl4.there
          obtain ⟨C, rfl⟩ := hcl rfl
          have S4 := Inv.caught J4 he4 hz4 hd4 na nL a0 aP
          refine store_ok (X := X.suite a (X.pn ++ pins)) (v := .ref a) S4 hN hi (.inl hln) rfl (fun s5 S5 => ?_) (.inr hln)
          refine wpAny_mono ((hsu a (X.pn ++ pins)).run [] s5 _ _ _ S5 (hyes rfl a C rfl na)) (fun f s6 hsp => ?_) (fun _ _ z => False.elim z)
          have end_ : ∀ {σ6 : L2.St} {H6 : Hp} {Q : Shared → Prop}, Inv (X.suite a (X.pn ++ pins)) [] σ6 H6 s6 → (∀ s7, Inv X pins (σ6.set i none) H6 s7 → Q s7) →
              wpAny (model X.prog X.w) X.A (do bindName X.env n .none; unbindBehindTheSuite X.env n pos') (fun _ s7 => Q s7) X.xe s6 := fun {σ6 H6 Q} S6 hq => gone_ok (Inv.uncaught S6 ok) hN hi hln hq
          cases f with
          | next =>
            obtain ⟨σ6, H6, S6, q6⟩ := hsp
            exact end_ S6 fun s7 J7 => ⟨_, _, J7, q6⟩
          | brk =>
            obtain ⟨σ6, H6, S6, q6⟩ := hsp
            exact end_ S6 fun s7 J7 => ⟨_, _, J7, q6⟩
          | cont =>
            obtain ⟨σ6, H6, S6, q6⟩ := hsp
            exact end_ S6 fun s7 J7 => ⟨_, _, J7, q6⟩
          | ret u =>
            obtain ⟨v6, σ6, H6, S6, r6, q6⟩ := hsp
            exact end_ S6 fun s7 J7 => ⟨_, _, _, J7, r6, q6⟩
        | false =>
          show wpAny _ X.A (handleBy (.ref a) X.env hds2) _ _ _
          exact ih (hno rfl)
    exact go hh w
  · cases f with
    | next =>
      obtain ⟨σ', H', J', q⟩ := hsp
      exact wpAny_execs_nil ⟨σ', H', J'.ofTry ok, q⟩
    | brk =>
      obtain ⟨σ', H', J', q⟩ := hsp
      exact ⟨σ', H', J'.ofTry ok, q⟩
    | cont =>
      obtain ⟨σ', H', J', q⟩ := hsp
      exact ⟨σ', H', J'.ofTry ok, q⟩
    | ret u =>
      obtain ⟨v, σ', H', J', r, q⟩ := hsp
      exact ⟨v, σ', H', J'.ofTry ok, r, q⟩
end
end DD

/-! SL19: try over data and store -/
namespace DD
open PySem PySem.Spec PyProof.Rows L2

theorem Ok.setU {I : Iota} {K : PySem.W.Frag} {W F0 F H : Hp} {σ : L2.St} {ρ : En} (o : @Ok I K W F0 σ ρ F H) (i : Nat) : @Ok I K W F0 (σ.set i none) (ρ.set i .un) F H := by
  refine @Ok.mk I K W F0 _ _ F H (@Ok.toOkB I K W F0 σ ρ F H o) (by simp [@Ok.len I K W F0 σ ρ F H o]) (fun j x s h1 h2 => ?_) (fun j k p ds ds' h1 h2 h3 h4 => ?_)
  · by_cases hj : i = j
    · subst hj
      have hi' : i < (ρ.set i .un).length := (List.getElem?_eq_some_iff.mp h2).1
      rw [List.getElem?_set_self (by simpa using hi')] at h2
      cases h2
      trivial
    · rw [List.getElem?_set_ne hj] at h1 h2
      exact @Ok.slots I K W F0 σ ρ F H o j x s h1 h2
  · have hj : i ≠ j := fun z => by
      subst z
      have hi' : i < (ρ.set i .un).length := (List.getElem?_eq_some_iff.mp h1).1
      rw [List.getElem?_set_self (by simpa using hi')] at h1; cases h1
    have hk : i ≠ k := fun z => by
      subst z
      have hi' : i < (ρ.set i .un).length := (List.getElem?_eq_some_iff.mp h2).1
      rw [List.getElem?_set_self (by simpa using hi')] at h2; cases h2
    rw [List.getElem?_set_ne hj] at h1 h3
    rw [List.getElem?_set_ne hk] at h2 h4
    exact @Ok.dist I K W F0 σ ρ F H o j k p ds ds' h1 h2 h3 h4
theorem Ok2.setU {I : Iota} {K : PySem.W.Frag} {S : Store} {W F0 F H : Hp} {σ : L2.St} {ρ : En} (o : Ok2 I K S W F0 σ ρ F H) (i : Nat) : Ok2 I K S W F0 (σ.set i none) (ρ.set i .un) F H := by
  obtain ⟨W1, b1, st⟩ := o
  exact ⟨W1, Ok.setU b1 i, st⟩
def clrR (i : Nat) : RO → RO
  | .nx ρ S => .nx (ρ.set i .un) S
  | .bk ρ S => .bk (ρ.set i .un) S
  | .ct ρ S => .ct (ρ.set i .un) S
  | .rt d S => .rt d S
  | _ => .bad
/-- one clause: the classes that it takes, those that it does not, the name's slot, the suite -/
structure Cl where
  yes : List Addr
  no : List Addr
  i : Nat
  g : En → SO
def yHands (x : Exc) : List Cl → En → SO
  | [] => fun ρ S => .ex x ρ S
  | c :: r => fun ρ S => if x.cls ∈ c.yes then clrR c.i (c.g (ρ.set c.i (.fz (.exn x.cls x.ns x.ds))) S) else if x.cls ∈ c.no then yHands x r ρ S else .bad
def yTry (f : En → SO) (l : List Cl) : En → SO := fun ρ S => match f ρ S with
  | .ex x ρ' S' => yHands x l ρ' S'
  | o => o
abbrev EF : WX := fun _ _ _ _ => False
theorem Post2.clr {K : PySem.W.Frag} {X : WX} {W F0 : Hp} {E : Ends} {I : Iota} {i : Nat} {r : RO} (h : Post2 K X W F0 E I (clrR i r)) :
    Post2 K EF W F0 { nx := fun σ' H' => E.nx (σ'.set i none) H', rt := E.rt, bk := fun σ' H' => E.bk (σ'.set i none) H', ct := fun σ' H' => E.ct (σ'.set i none) H' } I r := by
  cases r with
  | nx ρ S => exact fun J σ F H l o => h J (σ.set i none) F H l (o.setU i)
  | bk ρ S => exact fun J σ F H l o => h J (σ.set i none) F H l (o.setU i)
  | ct ρ S => exact fun J σ F H l o => h J (σ.set i none) F H l (o.setU i)
  | rt d S => exact h
  | ex x ρ S => exact h.elim
  | bad => exact h
/-- the clauses: written, by the layer, as plain functions -/
inductive HdOk2 (X : Cx) : List ExceptHandler → List (Value × Nat × TS) → List Cl → Prop
  | nil : HdOk2 X [] [] []
  | cons {x n : Str} {c : Value} {i : Nat} {ts : TS} {b₀ : Stmt} {suite : List Stmt} {np pos' : Pos} {yes no : List Addr} {g : En → SO} {hds : List ExceptHandler} {l : List (Value × Nat × TS)} {m : List Cl} (hc : Names X x c) (hi : X.N[i]? = some n) (hln : X.env.kindOf n = some .local)
      (hy : ∀ C ∈ yes, PySem.W.exmOne X.K (.ref C) c = some true) (hn : ∀ C ∈ no, PySem.W.exmOne X.K (.ref C) c = some false)
      (hsu : ∀ (a : Addr) (pn : List (Addr × Obj)), PSs2 (X.suite a pn) EF (b₀ :: suite) ts g) (r : HdOk2 X hds l m) :
      HdOk2 X (.ExceptHandler (some (.Name x np)) (some n) (b₀ :: suite) pos' :: hds) ((c, i, ts) :: l) (⟨yes, no, i, g⟩ :: m)
theorem HdOk2.old {X : Cx} : ∀ {hds : List ExceptHandler} {l : List (Value × Nat × TS)} {m : List Cl}, HdOk2 X hds l m → HdOk X hds l
  | _, _, _, .nil => .nil
  | _, _, _, .cons hc hi hln _ _ hsu r => .cons hc hi hln (fun a pn => (hsu a pn).pe) r.old
theorem hands_ok {X : Cx} {E : WX} {W F0 : Hp} {D : Ends} {x : Exc} : ∀ {hds : List ExceptHandler} {l : List (Value × Nat × TS)} {m : List Cl}, HdOk2 X hds l m → ∀ {I J : Iota} {ρ : En} {S : Store} {σ : L2.St} {F H : Hp} {cls : Value} {dd : Option Addr}, Post2 X.K E W F0 D I (yHands x m ρ S) →
    Iota.le I J → Ok2 J X.K S W F0 σ ρ F H → Xr J X.K F H x cls dd → wM X.K E D l cls dd σ H
  | _, _, _, .nil, I, J, ρ, S, σ, F, H, cls, dd, q, l, o, xr => q J σ F H cls dd l o xr
  | _, _, _, @HdOk2.cons _ nx n c i ts b₀ suite np pos' yes no g hds' l' m' hc hi hln hy hn hsu r, I, J, ρ, S, σ, F, H, cls, dd, q, le, o, xr => by
    obtain ⟨rfl, xd⟩ := id xr
    have q' : Post2 X.K E W F0 D I (if x.cls ∈ yes then clrR i (g (ρ.set i (.fz (.exn x.cls x.ns x.ds))) S) else if x.cls ∈ no then yHands x m' ρ S else .bad) := q
    by_cases h1 : x.cls ∈ yes
    · rw [if_pos h1] at q'
      refine ⟨true, hy _ h1, fun _ a C hC na => ?_, fun _ => ⟨_, rfl⟩, fun z => absurd z (by decide)⟩
      cases hC
      obtain ⟨o2, s2⟩ := o.frozen (exq a x.cls dd) na
      have rx : @Rp J X.K (upd F a (exq a x.cls dd)) (.ref a) (.exn x.cls x.ns x.ds) := by
        refine (@rp_exn J X.K _ _ _ _ _).mpr ⟨a, rfl, ?_⟩
        rcases xd with ⟨rfl, _, e1, e2⟩ | ⟨_, d, vs, rfl, hd, hl, hr⟩
        · exact .inr ⟨upd_same, e1, e2⟩
        · exact .inl ⟨d, vs, upd_same, s2 _ _ hd, hl, @Rps.mono J X.K F _ s2 vs x.ds hr⟩
      exact (hsu a []).de J W F0 _ _ S _ _ _ (o2.setF i rx) (Post2.mono le (Post2.clr q'))
    · rw [if_neg h1] at q'
      by_cases h2 : x.cls ∈ no
      · rw [if_pos h2] at q'
        exact ⟨false, hn _ h2, fun z => absurd z (by decide), fun z => absurd z (by decide), fun _ => hands_ok r q' le o xr⟩
      · rw [if_neg h2] at q'
        exact q'.elim
/-- a wish that takes everything -/
theorem takes_any {X : Cx} {W : WX} (hs : X.stack = X.env :: X.outer) (hf : X.env.frame = some X.env.locals) (pn : List (Addr × Obj)) :
    Takes (X.tr pn fun e s₁ => wpAny (model X.prog X.w) X.A (noteFrame e X.env) (fun _ s₂ => wpAny (model X.prog X.w) X.A (setFlight e none) (fun _ _ => True) (fun _ _ => True) s₂) (fun _ _ => True) s₁) W := fun u s' x => by
  obtain ⟨a, B, sI, pins', σ', H', cls, d, rfl, J', nb, up, sky, na, os, ag, w⟩ := x
  have hfr : X.A.frames = some (X.env :: X.outer) := by have := J'.ok.frames; rw [show (X.tr pn _).stack = X.stack from rfl, hs] at this; exact this
  have sky' : Sky B (X.env :: X.outer) a (Zc cls d) X.env.locals s'.heap := by rw [← hs]; exact sky
  exact Sky.land Zc.steady hfr hf sky' fun _ _ _ => trivial
theorem ps2_try {X : Cx} {E : WX} {body : List Stmt} {h₀ : ExceptHandler} {hds : List ExceptHandler} {l : List (Value × Nat × TS)} {m : List Cl} {pos : Pos} {tb : WX → TS} {bf : En → SO}
    (hs : X.stack = X.env :: X.outer) (hf : X.env.frame = some X.env.locals) (hex : X.ex = []) (hN : X.N.Nodup) (tk : Takes X E)
    (hb : ∀ (W : WX) (pn : List (Addr × Obj)) (xe : Value → Shared → Prop), Takes (X.tr pn xe) W → PassesOwn (model X.prog X.w) X.A X.env xe → PSs2 (X.tr pn xe) W body (tb W) bf)
    (hh : HdOk2 X (h₀ :: hds) l m) : PS2 X E (.Try body (h₀ :: hds) [] [] pos) (fun D σ H => tb (wM X.K E D l) D σ H) (yTry bf m) := by
  refine ⟨ps_tryM hs hf hex hN tk (fun W pn xe t p => (hb W pn xe t p).pe) hh.old, fun I W F0 σ ρ S F H D o q => ?_⟩
  have de := (hb (wM X.K E D l) [] _ (takes_any hs hf []) PassesOwn.looking).de
  refine de I W F0 σ ρ S F H D o ?_
  unfold yTry at q
  cases e : bf ρ S with
  | ex x ρ' S' =>
    rw [e] at q
    exact fun J σ' F' H' cls dd le o' xr => hands_ok hh q le o' xr
  | nx ρ' S' => rw [e] at q; exact q
  | rt d S' => rw [e] at q; exact q
  | bk ρ' S' => rw [e] at q; exact q
  | ct ρ' S' => rw [e] at q; exact q
  | bad => rw [e] at q; exact q
end DD

/-! SL20: e.f of a caught exception; isinstance of exceptions and of the store's instances -/
namespace DD
open PySem PySem.Spec PyProof.Rows L2

/-! ### e.f -/
/-- a field's value: e is an exception -/
def tXe (K : PySem.W.Frag) (f : Str) (te : TE) : TE := fun σ H Q => te σ H fun x H1 => ∃ (a C dd : Addr) (fs : List (Str × V)) (v : V), x = .ref a ∧ H1 a = some (exq a C (some dd)) ∧ H1 dd = some (.xd fs) ∧ XfC K C ∧ PySem.W.findIn K (.ref C) f = some none ∧ fs.lookup f = some v ∧ Q v H1
theorem exq_at {P : Program} {w : World} {H : Hp} {h : Heap} {a C : Addr} {d : Option Addr} (hok : HOk P w H h) (he : H a = some (exq a C d)) : ∃ oe : Obj, h.get? a = some oe ∧ oe.cls = .ref C ∧ oe.dict = d ∧ ∃ vs, oe.data = .fields vs := by
  have x : ObjOk P w H h a (.ext fun h => ∃ oe : Obj, h.get? a = some oe ∧ oe.cls = .ref C ∧ oe.dict = d ∧ ∃ vs, oe.data = .fields vs) := hok a _ he
  exact x.1
theorem pe_xe {X : Cx} {e : Expr} {te : TE} {pos : Pos} {n : Str} (he : PE X e te) (hb : attributeBase e n X.env (eval e X.env) = eval e X.env := by rfl) : PE X (.Attribute e n pos) (tXe X.K n te) := by
  refine ⟨fun pins s σ H Q I h => ?_⟩
  refine attr_of hb (thn (he.run pins s σ H _ I h) fun u s1 hh => ?_)
  obtain ⟨x, H1, I1, rx, a, C, dd, fs, v, ex, ea, ed, T, hno, l, q⟩ := hh
  subst ex
  obtain rfl : u = Value.ref a := rx
  obtain ⟨oe, ha, hc, hdct, vs, hd⟩ := exq_at I1.hok ea
  have hx : ObjOk X.prog X.w H1 s1.heap dd (.xd fs) := I1.hok dd _ ed
  obtain ⟨mA, hns, hr⟩ := hx
  obtain ⟨od, ho, hl⟩ := lookIn_ns hns
  obtain ⟨u, hu, ru⟩ := RelO.some_of (v := v) (o := mA n) (by rw [← l]; exact hr n)
  have J : PySem.W.InstAt s1.heap a oe C (some od) := ⟨ha, hc, by unfold PySem.W.notCls; rw [hd] <;> rfl, by rw [hdct]; exact ho⟩
  exact HandSPX.exc_get I1.kIn J T.ga T.gg T.exC (PySem.W.findObj_own T.hdC hno rfl (by rw [hl, hu])) (handed_of ru) ⟨v, H1, I1.tok _, ru, q⟩
/-- Cs: the classes that it may have -/
def xfS (Cs : List Addr) (f : Str) (d : D) : SM D := match d with
  | .exn C ns ds => if C ∈ Cs then (match (ns.zip ds).lookup f with
    | some d => SM.ret d
    | none => fun _ => .bad) else fun _ => .bad
  | _ => fun _ => .bad
section
variable {X : Cx} {E : WX} {pos : Pos} {e : Expr} {f : Str} {te : TE} {fe : En → SM D} {Cs : List Addr}
theorem pe2_xf (hC : ∀ C ∈ Cs, XfC X.K C ∧ PySem.W.findIn X.K (.ref C) f = some none) (he : PE2 X E e te fe) (hb : attributeBase e f X.env (eval e X.env) = eval e X.env := by rfl) : PE2 X E (.Attribute e f pos) (tXe X.K f te) (fun ρ => fe ρ >>= xfS Cs f) := by
  refine ⟨pe_xe he.pe hb, fun I W F0 σ ρ S F H Q oo g0 => ?_⟩
  refine he.de I W F0 σ ρ S F H _ oo ((G2.of_bind g0).imp (fun x S1 g1 J v F1 H1 l1 o1 s1 r1 => ?_) fun _ _ h => h)
  unfold xfS at g1
  split at g1
  · rename_i C ns ds
    split at g1
    · rename_i hc
      cases hl : (ns.zip ds).lookup f with
      | none => rw [hl] at g1; exact g1.elim
      | some d =>
        rw [hl] at g1
        obtain ⟨a, rfl, ⟨dd, xs, ha, hd, ln, rv⟩ | ⟨_, e1, e2⟩⟩ := (@rp_exn J X.K F1 v C ns ds).mp r1
        · obtain ⟨y, h1, h2⟩ := @zip_look J X.K F1 f ns xs ds rv ln d hl
          have sub : Same F1 H1 := by obtain ⟨V, b, _⟩ := id o1; exact (@Ok.toOkB J X.K V F0 σ ρ F1 H1 b).sub
          exact ⟨a, C, dd, _, y, rfl, sub _ _ ha, sub _ _ hd, (hC C hc).1, (hC C hc).2, h1, g1 J y F1 H1 l1 o1 s1 h2⟩
        · subst e1
          simp at hl
    · exact g1.elim
  · exact g1.elim
end

/-! ### isinstance -/
def isClsD : D → Bool
  | .clr _ => true
  | .ty _ => true
  | _ => false
def clsV : D → Value
  | .clr C => .ref C
  | .ty T => .type T
  | _ => .none
/-- the library's answer for the class t and what c tells -/
def kitD (K : PySem.W.Frag) (t : Value) : D → Option Bool
  | .clr C => PySem.W.kitOne K t (.ref C)
  | .ty T => PySem.W.kitOne K t (.type T)
  | .tup cs => if cs.all isClsD = true then PySem.W.kitAny K t (cs.map clsV) else none
  | _ => none
/-- what a plain class must say -/
structure InsC (K : PySem.W.Frag) (C : Addr) : Prop where
  cl : Cls K C
  ha : PySem.W.findIn K (.ref C) "__class__" = some (some (.builtin "object.__class__"))
  hn : PySem.W.specialIn K (.builtin "object.__class__") "__get__" = some (some (.builtin "getset_descriptor.__get__"))
  ht : PySem.W.takesIn K (.builtin "object.__class__") = some true
  hm : PySem.W.mroIn K C (.type "object") = some true
/-- x is an instance of the class at C -/
inductive TyO (K : PySem.W.Frag) (H : Hp) : V → Addr → Prop where
  | ins {a C dx : Addr} {fs : List (Str × V)} (e : H a = some (.ins C dx fs)) (c : InsC K C) : TyO K H (.ref a) C
  | exq {a C : Addr} {d : Option Addr} (e : H a = some (exq a C d)) (h : ∀ dd, d = some dd → ∃ fs, H dd = some (.xd fs)) (c : ExcC K C) : TyO K H (.ref a) C
theorem kitx_exq {K : PySem.W.Frag} {x D : Addr} {ox : Obj} {od : Option Obj} (c : ExcC K D) : PySem.W.KitX K (.ref x) (.ref D) (fun h => PySem.W.InstAt h x ox D od) where
  ty := fun _ _ _ I => I.type
  it := fun _ _ X _ => by
    obtain ⟨cdD, hcD, _⟩ := PySem.W.any_some c.hd
    unfold PySem.W.clsIn at hcD
    split at hcD
    · rename_i c' d' cd' sl' ho
      intro A' Q' E' s' k q
      unfold isType loadHead
      exact wpAny_bind (wpAny_loadPart (k _ _ (X _ _ ho)) (wpAny_pure q))
    · cases hcD
  ne := fun h tp dd its n sl X htp => by
    obtain ⟨cdD, hcD, _⟩ := PySem.W.any_some c.hd
    refine Bool.eq_false_iff.mpr fun q => ?_
    have e : D = tp := Value.ref.inj (beq_iff_eq.mp q)
    subst e
    unfold PySem.W.clsIn at hcD
    split at hcD
    · rename_i c' d' cd' sl' ho
      have z := (X _ _ ho).symm.trans htp
      cases z
    · cases hcD
  ca := fun X I k => PySem.W.kx_classE X I c.hg c.hk c.hs (PySem.W.findObj_dataE (by obtain ⟨cd, hc, _⟩ := PySem.W.any_some c.hd; rw [hc]; rfl) c.ha c.hn c.ht) c.hm k
theorem kit_obj {X : Cx} {pins : List (Addr × Obj)} {σ : L2.St} {H : Hp} {s : Shared} {x : V} {u : Value} {C : Addr} (I : Inv X pins σ H s) (rx : L2.RelV x u) (ty : TyO X.K H x C) : ∃ P : Heap → Prop, PySem.W.KitX X.K u (.ref C) P ∧ P s.heap ∧ u ≠ .builtin "__main__.__loader__#opaque" := by
  cases ty with
  | @ins a _ dx fs ea c =>
    exact kit_of I rx (.base (.ins ea c.cl c.ha c.hn c.ht c.hm))
  | @exq a _ d ea h c =>
    cases (show u = Value.ref a from rx)
    obtain ⟨oe, ha, hc, hdct, vs, hd⟩ := exq_at I.hok ea
    cases d with
    | none => exact ⟨_, kitx_exq (ox := oe) (od := none) c, ⟨ha, hc, by unfold PySem.W.notCls; rw [hd] <;> rfl, by rw [hdct]; trivial⟩, fun z => nomatch z⟩
    | some dd =>
      obtain ⟨fs, hf⟩ := h dd rfl
      have hx : ObjOk X.prog X.w H s.heap dd (.xd fs) := I.hok dd _ hf
      obtain ⟨mA, hns, hr⟩ := hx
      obtain ⟨od, ho, hl⟩ := lookIn_ns hns
      exact ⟨_, kitx_exq (ox := oe) (od := some od) c, ⟨ha, hc, by unfold PySem.W.notCls; rw [hd] <;> rfl, by rw [hdct]; exact ho⟩, fun z => nomatch z⟩
/-- isinstance(x, c): c a class, or a tuple of classes -/
def rIsO (K : PySem.W.Frag) : List V → Hp → VK → Prop := fun xs H Q => ∃ (x c : V) (C : Addr) (b : Bool), xs = [x, c] ∧ TyO K H x C ∧ ((∃ u, ClsV c u ∧ PySem.W.kitOne K (.ref C) u = some b) ∨ ∃ (tp : Addr) (cs : List V) (us : List Value), c = .ref tp ∧ SqT K H tp cs ∧ Paired ClsV cs us ∧ PySem.W.kitAny K (.ref C) us = some b) ∧ Q (.bl b) H
theorem call_isO {X : Cx} : CallR X (.builtin "isinstance") (rIsO X.K) := by
  intro pins s σ H xs us Q I r h
  obtain ⟨x, c, C, b, rfl, ty, k, q⟩ := h
  obtain ⟨u1, u2, rfl, r1, r2⟩ := vals2 r
  obtain ⟨P, Z, p, hx⟩ := kit_obj I r1 ty
  rcases k with ⟨u, k, e⟩ | ⟨tp, cs, ws, rfl, hT, k, e⟩
  · have e2 := k.eq r2
    subst e2
    exact PySem.W.kia_one Z I.kIn p e hx fun tk => ⟨.bl b, H, I.tok tk, rfl, q⟩
  · cases (show u2 = Value.ref tp from r2)
    obtain ⟨its, rv, ⟨o, h1, h2, n, h3⟩, _⟩ := I.tuple hT
    have e3 := ClsV.all k rv
    subst e3
    obtain ⟨oc, od, dt, sl⟩ := o
    simp only at h2 h3
    subst h2 h3
    exact PySem.W.kia_tup Z I.kIn p h1 e hx fun tk => ⟨.bl b, H, I.tok tk, rfl, q⟩
theorem clsv_of {I : Iota} {K : PySem.W.Frag} {F : Hp} {v : V} {d : D} (h : isClsD d = true) (r : @Rp I K F v d) : ClsV v (clsV d) := by
  cases d <;> first | (cases h; done) | skip
  · cases (@rp_clr I K F v _).mp r; exact .own _
  · cases (@rp_ty I K F v _).mp r; exact .ty _
theorem clsvs_of {I : Iota} {K : PySem.W.Frag} {F : Hp} : ∀ {vs : List V} {ds : List D}, ds.all isClsD = true → @Rps I K F vs ds → Paired ClsV vs (ds.map clsV)
  | vs, [], _, r => by cases @Rps.of_nil I K F vs r; exact .nil
  | vs, d :: ds, h, r => by
    obtain ⟨y, ys, rfl, ry, rs⟩ := @Rps.of_cons I K F vs d ds r
    rw [List.all_cons, Bool.and_eq_true] at h
    exact .cons (clsv_of h.1 ry) (clsvs_of h.2 rs)
theorem kitD_ok {I : Iota} {K : PySem.W.Frag} {F H : Hp} {c : V} {d : D} {C : Addr} {b : Bool} (sF : Same F H) (r : @Rp I K F c d) (e : kitD K (.ref C) d = some b) :
    (∃ u, ClsV c u ∧ PySem.W.kitOne K (.ref C) u = some b) ∨ ∃ (tp : Addr) (cs : List V) (us : List Value), c = .ref tp ∧ SqT K H tp cs ∧ Paired ClsV cs us ∧ PySem.W.kitAny K (.ref C) us = some b := by
  cases d <;> first | (cases e; done) | skip
  · obtain ⟨a, xs, rfl, ha, rs⟩ := (@rp_tup I K F c _).mp r
    rename_i cs
    have e' : (if cs.all isClsD = true then PySem.W.kitAny K (.ref C) (cs.map clsV) else none) = some b := e
    by_cases hall : cs.all isClsD = true
    · rw [if_pos hall] at e'
      exact .inr ⟨a, xs, _, rfl, Same.seqT sF ha, clsvs_of hall rs, e'⟩
    · rw [if_neg hall] at e'
      cases e'
  · exact .inl ⟨_, clsv_of rfl r, e⟩
  · exact .inl ⟨_, clsv_of rfl r, e⟩
/-- the answer by the class of x alone -/
def isO (yes no : List Addr) (x : D) : SM D := fun S => match x with
  | .exn C _ _ => if C ∈ yes then .ok (.bl true) S else if C ∈ no then .ok (.bl false) S else .bad
  | .ref n => (match S[n]? with
    | some (.ins C _ _) => if C ∈ yes then .ok (.bl true) S else if C ∈ no then .ok (.bl false) S else .bad
    | _ => .bad)
  | _ => .bad
/-- a class of either kind -/
def ObjC (K : PySem.W.Frag) (C : Addr) : Prop := ExcC K C ∨ InsC K C
section
variable {X : Cx} {E : WX} {pos p : Pos} {a c : Expr} {ta tc : TE} {fa fc : En → SM D} {c0 : D} {yes no : List Addr}
theorem isO_of {C : Addr} {S : Store} {P : D → Store → Prop} {Y : Exc → Store → Prop} (g : G2 (if C ∈ yes then RS.ok (.bl true) S else if C ∈ no then .ok (.bl false) S else .bad) P Y) : ∃ b, P (.bl b) S ∧ (b = true ∧ C ∈ yes ∨ b = false ∧ C ∈ no) := by
  by_cases h1 : C ∈ yes
  · rw [if_pos h1] at g; exact ⟨true, g, .inl ⟨rfl, h1⟩⟩
  · rw [if_neg h1] at g
    by_cases h2 : C ∈ no
    · rw [if_pos h2] at g; exact ⟨false, g, .inr ⟨rfl, h2⟩⟩
    · rw [if_neg h2] at g; exact g.elim
theorem pe2_isE (hm : X.mg "isinstance" = none) (ha : PE2 X E a ta fa) (hc : PE2 X E c tc fc) (hfc : ∀ ρ S d S', fc ρ S = .ok d S' → d = c0)
    (hy : ∀ C ∈ yes, ExcC X.K C ∧ kitD X.K (.ref C) c0 = some true) (hn : ∀ C ∈ no, ExcC X.K C ∧ kitD X.K (.ref C) c0 = some false) (hg : Gl X "isinstance" := by rfl)
    (he : starEach [a, c] X.env = (false, eval a X.env) :: starEach [c] X.env := by rfl) (he2 : starEach [c] X.env = (false, eval c X.env) :: starEach [] X.env := by rfl) (hpl : (backTo pos (starEach [c] X.env)).any (·.1) = false := by rfl) :
    PE2 X E (.Call (.Name "isinstance" p) [a, c] [] pos) (tCB (rIsO X.K) (tCons ta (tCons tc tNil))) (fun ρ => fa ρ >>= fun x => fc ρ >>= fun _ => (match x with | .exn _ _ _ => isO yes no x | _ => fun _ => .bad)) := by
  refine ⟨pe_callB call_isO hg hm PyProof.Rows.boot_isinstance (pa_cons ha.pe (pa_cons hc.pe pa_nil he2) he) (by decide) (by decide) he hpl, fun I W F0 σ ρ S F H Q o g0 => ?_⟩
  refine ha.de I W F0 σ ρ S F H _ o ((G2.of_bind g0).imp (fun x S1 g1 J v F1 H1 l1 o1 s1 r1 => ?_) fun _ _ h => h)
  have g1' := G2.of_bind g1
  cases hfe : fc ρ S1 with
  | bad => rw [hfe] at g1'; exact g1'.elim
  | err z S2 =>
    rw [hfe] at g1'
    refine hc.de J W F0 σ ρ S1 F1 H1 _ o1 ?_
    rw [hfe]
    exact KX.mono l1 s1 g1'
  | ok d S2 =>
    have hd := hfc ρ S1 d S2 hfe
    subst hd
    rw [hfe] at g1'
    refine hc.de J W F0 σ ρ S1 F1 H1 _ o1 ?_
    rw [hfe]
    intro L w F2 H2 l2 o2 s2 r2
    have g2 : G2 ((match x with | .exn _ _ _ => isO yes no x | _ => fun _ => .bad) S2) _ _ := g1'
    cases x <;> first | exact g2.elim | skip
    rename_i C ns ds
    obtain ⟨b, gb, hb⟩ := isO_of (yes := yes) (no := no) (C := C) g2
    have sub : Same F2 H2 := by obtain ⟨V, bb, _⟩ := id o2; exact (@Ok.toOkB L X.K V F0 σ ρ F2 H2 bb).sub
    have hC : ExcC X.K C ∧ kitD X.K (.ref C) d = some b := by
      rcases hb with ⟨rfl, h⟩ | ⟨rfl, h⟩
      · exact hy C h
      · exact hn C h
    obtain ⟨aa, rfl, hx⟩ := (@rp_exn L X.K F2 v C ns ds).mp (@Rp.mono L X.K F1 F2 s2 v _ (Rp.ext l2 r1))
    have ty : TyO X.K H2 (.ref aa) C := by
      rcases hx with ⟨dd, xs, h1, h2, _⟩ | ⟨h1, _⟩
      · exact .exq (sub _ _ h1) (fun e he => by cases he; exact ⟨_, sub _ _ h2⟩) hC.1
      · exact .exq (sub _ _ h1) (fun e he => by cases he) hC.1
    exact ⟨.ref aa, w, C, b, rfl, ty, kitD_ok sub r2 hC.2, gb L _ F2 H2 (l1.trans l2) o2 (s1.trans s2) ((@rp_bl L X.K F2 _ _).mpr rfl)⟩
theorem pe2_isI (hm : X.mg "isinstance" = none) (ha : PE2 X E a ta fa) (hc : PE2 X E c tc fc) (hfc : ∀ ρ S d S', fc ρ S = .ok d S' → d = c0 ∧ S' = S)
    (hy : ∀ C ∈ yes, InsC X.K C ∧ kitD X.K (.ref C) c0 = some true) (hn : ∀ C ∈ no, InsC X.K C ∧ kitD X.K (.ref C) c0 = some false) (hg : Gl X "isinstance" := by rfl)
    (he : starEach [a, c] X.env = (false, eval a X.env) :: starEach [c] X.env := by rfl) (he2 : starEach [c] X.env = (false, eval c X.env) :: starEach [] X.env := by rfl) (hpl : (backTo pos (starEach [c] X.env)).any (·.1) = false := by rfl) :
    PE2 X E (.Call (.Name "isinstance" p) [a, c] [] pos) (tCB (rIsO X.K) (tCons ta (tCons tc tNil))) (fun ρ => fa ρ >>= fun x => fc ρ >>= fun _ => (match x with | .ref _ => isO yes no x | _ => fun _ => .bad)) := by
  refine ⟨pe_callB call_isO hg hm PyProof.Rows.boot_isinstance (pa_cons ha.pe (pa_cons hc.pe pa_nil he2) he) (by decide) (by decide) he hpl, fun I W F0 σ ρ S F H Q o g0 => ?_⟩
  refine ha.de I W F0 σ ρ S F H _ o ((G2.of_bind g0).imp (fun x S1 g1 J v F1 H1 l1 o1 s1 r1 => ?_) fun _ _ h => h)
  have g1' := G2.of_bind g1
  cases hfe : fc ρ S1 with
  | bad => rw [hfe] at g1'; exact g1'.elim
  | err z S2 =>
    rw [hfe] at g1'
    refine hc.de J W F0 σ ρ S1 F1 H1 _ o1 ?_
    rw [hfe]
    exact KX.mono l1 s1 g1'
  | ok d S2 =>
    obtain ⟨hd, hS⟩ := hfc ρ S1 d S2 hfe
    subst hd
    subst hS
    rw [hfe] at g1'
    refine hc.de J W F0 σ ρ S2 F1 H1 _ o1 ?_
    rw [hfe]
    intro L w F2 H2 l2 o2 s2 r2
    have g2 : G2 ((match x with | .ref _ => isO yes no x | _ => fun _ => .bad) S2) _ _ := g1'
    cases x <;> first | exact g2.elim | skip
    rename_i n
    have g3 : G2 (match S2[n]? with
      | some (.ins C _ _) => if C ∈ yes then RS.ok (D.bl true) S2 else if C ∈ no then RS.ok (D.bl false) S2 else RS.bad
      | _ => RS.bad) _ _ := g2
    split at g3
    · rename_i C ns ds hS
      obtain ⟨b, gb, hb⟩ := isO_of (yes := yes) (no := no) (C := C) g3
      have sub : Same F2 H2 := by obtain ⟨V, bb, _⟩ := id o2; exact (@Ok.toOkB L X.K V F0 σ ρ F2 H2 bb).sub
      have hC : InsC X.K C ∧ kitD X.K (.ref C) d = some b := by
        rcases hb with ⟨rfl, h⟩ | ⟨rfl, h⟩
        · exact hy C h
        · exact hn C h
      obtain ⟨aa, rfl, ha1⟩ := (@rp_ref J X.K F1 v n).mp r1
      obtain ⟨dx, vs0, e1, _⟩ := o2.get hS (l2 n aa ha1)
      exact ⟨.ref aa, w, C, b, rfl, .ins e1 hC.1, kitD_ok sub r2 hC.2, gb L _ F2 H2 (l1.trans l2) o2 (s1.trans s2) ((@rp_bl L X.K F2 _ _).mpr rfl)⟩
    · exact g3.elim
end
end DD

/-! SL21: match e: case [..]: .. over tuples, texts, names -/
namespace DD
open PySem PySem.Spec PyProof.Rows L2

abbrev Bs := List (Nat × D)
abbrev PF1 := D → R (Option Bs)
def BsOk (I : Iota) (X : Cx) (F : Hp) : List (Str × Value) → Bs → Prop
  | [], [] => True
  | (n, u) :: l, (i, d) :: m => X.N[i]? = some n ∧ Loc X.env.scope n ∧ (X.fn n = true ∨ X.env.scope.names.lookup n = some .local) ∧ (∃ v, L2.RelV v u ∧ @Rp I X.K F v d) ∧ BsOk I X F l m
  | _, _ => False
def BoOk (I : Iota) (X : Cx) (F : Hp) : Option (List (Str × Value)) → Option Bs → Prop
  | none, none => True
  | some l, some m => BsOk I X F l m
  | _, _ => False
theorem BsOk.append {I : Iota} {X : Cx} {F : Hp} : ∀ {l : List (Str × Value)} {m : Bs} {l' : List (Str × Value)} {m' : Bs}, BsOk I X F l m → BsOk I X F l' m' → BsOk I X F (l ++ l') (m ++ m')
  | [], [], _, _, _, h => h
  | [], _ :: _, _, _, h, _ => h.elim
  | _ :: _, [], _, _, h, _ => by cases h
  | (n, u) :: l, (i, d) :: m, _, _, ⟨a, b, c, e, r⟩, h => ⟨a, b, c, e, BsOk.append r h⟩
/-- a pattern, read over data -/
structure PMD (X : Cx) (p : Pattern) (f : PF1) : Prop where
  run : ∀ (I : Iota) (pins : List (Addr × Obj)) (s : Shared) (σ : L2.St) (H F : Hp) (v : V) (u : Value) (d : D) (r : Option Bs) (Q : Option (List (Str × Value)) → Shared → Prop), Inv X pins σ H s → Same F H → L2.RelV v u → @Rp I X.K F v d → f d = .ok r →
    (∀ bs s', Inv X pins σ H s' → BoOk I X F bs r → Q bs s') → wpAny (model X.prog X.w) X.A (matchPattern p X.env u) Q X.xe s
structure PMsD (X : Cx) (ps : List Pattern) (n : Nat) (f : List D → R (Option Bs)) : Prop where
  len : ps.length = n
  run : ∀ (I : Iota) (pins : List (Addr × Obj)) (s : Shared) (σ : L2.St) (H F : Hp) (vs : List V) (us : List Value) (ds : List D) (r : Option Bs) (Q : Option (List (Str × Value)) → Shared → Prop), Inv X pins σ H s → Same F H → Vals vs us → @Rps I X.K F vs ds → f ds = .ok r →
    (∀ bs s', Inv X pins σ H s' → BoOk I X F bs r → Q bs s') → wpAny (model X.prog X.w) X.A (matchEach ps X.env us) Q X.xe s
def mWild : PF1 := fun _ => .ok (some [])
def mCap (i : Nat) : PF1 := fun d => .ok (some [(i, d)])
def mStr (z : Str) : PF1 := fun d => match sEq d (.str z) with
  | some true => .ok (some [])
  | some false => .ok none
  | none => .bad
def mNil : List D → R (Option Bs)
  | [] => .ok (some [])
  | _ => .bad
def mCons (f : PF1) (g : List D → R (Option Bs)) : List D → R (Option Bs)
  | d :: ds => f d >>= fun r => match r with
    | none => .ok none
    | some bs => g ds >>= fun r' => match r' with
      | none => .ok none
      | some more => .ok (some (bs ++ more))
  | [] => .bad
def mSeq (n : Nat) (g : List D → R (Option Bs)) : PF1
  | .tup ds => if ds.length = n then g ds else .ok none
  | _ => .bad
section
variable {X : Cx} {pos : Pos}
theorem pm_wild : PMD X (.MatchAs none none pos) mWild := ⟨fun I pins s σ H F v u d r Q J sF rv rd e k => by
  cases e
  exact wpAny_matchPattern_Capture (k _ _ J trivial)⟩
theorem pm_cap {i : Nat} {x : Str} (hi : X.N[i]? = some x := by rfl) (hx : Loc X.env.scope x := by first | exact Or.inl rfl | exact Or.inr rfl) (hf : X.fn x = true ∨ X.env.scope.names.lookup x = some .local := by first | exact .inl rfl | exact .inr rfl | assumption) :
    PMD X (.MatchAs none (some x) pos) (mCap i) := ⟨fun I pins s σ H F v u d r Q J sF rv rd e k => by
  cases e
  exact wpAny_matchPattern_Capture (k _ _ J ⟨hi, hx, hf, ⟨v, rv, rd⟩, trivial⟩)⟩
theorem pm_str {z : Str} {j : Nat} {p : Pos} : PMD X (.MatchValue (.Constant (.str z) j p) pos) (mStr z) := ⟨fun I pins s σ H F v u d r Q J sF rv rd e k => by
  refine wpAny_matchPattern_Value ?_
  have hz : PE X (.Constant (.str z) j p) (tC (.str z)) := pe_str
  refine thn (hz.run pins s σ H (fun y H1 => y = .str z ∧ H1 = H) J ⟨rfl, rfl⟩) fun w s1 ⟨y, H1, J1, rw', ey, eh⟩ => ?_
  subst ey eh
  unfold mStr at e
  cases hq : sEq d (.str z) with
  | none => rw [hq] at e; cases e
  | some b =>
    obtain ⟨h1, h2⟩ := @sEq_ok I X.K F v (.str z) d (.str z) b rd ((@rp_str I X.K F _ _).mpr rfl) hq
    refine thn (op_eq pins s1 σ H1 v (.str z) u w (fun y H2 => y = .bl b ∧ H2 = H1) J1 rv rw' ⟨h1, by rw [h2]; exact ⟨rfl, rfl⟩⟩) fun c s2 ⟨y, H2, J2, rc, ey, eh⟩ => ?_
    subst ey eh
    cases (show c = Value.bool b from rc)
    refine wpAny_truthy_bool ?_
    rw [hq] at e
    cases b with
    | true =>
      cases e
      exact k _ _ J2 trivial
    | false =>
      cases e
      exact k _ _ J2 trivial⟩
theorem pms_nil : PMsD X [] 0 mNil := ⟨rfl, fun I pins s σ H F vs us ds r Q J sF rv rd e k => by
  cases ds with
  | nil =>
    cases e
    cases @Rps.of_nil I X.K F vs rd
    cases rv
    exact wpAny_matchEach_nil (k _ _ J trivial)
  | cons d ds => cases e⟩
theorem pms_cons {p : Pattern} {ps : List Pattern} {n : Nat} {f : PF1} {g : List D → R (Option Bs)} (h1 : PMD X p f) (h2 : PMsD X ps n g) (hp : p.isStar = false := by rfl) : PMsD X (p :: ps) (n + 1) (mCons f g) := ⟨by rw [List.length_cons, h2.len], fun I pins s σ H F vs us ds r Q J sF rv rd e k => by
  cases ds with
  | nil => cases e
  | cons d ds =>
    obtain ⟨y, ys, rfl, ry, rs⟩ := @Rps.of_cons I X.K F vs d ds rd
    cases rv with
    | cons rv rvs =>
      obtain ⟨r1, e1, e2⟩ := R.of_bind e
      refine wpAny_matchEach_cons (h1.run I pins s σ H F y _ d r1 _ J sF rv ry e1 fun bs s1 J1 hb => ?_) hp
      cases r1 with
      | none =>
        cases bs with
        | none => cases e2; exact k _ _ J1 trivial
        | some _ => exact hb.elim
      | some b1 =>
        cases bs with
        | none => exact hb.elim
        | some l1 =>
          obtain ⟨r2, e3, e4⟩ := R.of_bind e2
          refine h2.run I pins s1 σ H F ys _ ds r2 _ J1 sF rvs rs e3 fun bs2 s2 J2 hb2 => ?_
          cases r2 with
          | none =>
            cases bs2 with
            | none => cases e4; exact k _ _ J2 trivial
            | some _ => exact hb2.elim
          | some b2 =>
            cases bs2 with
            | none => exact hb2.elim
            | some l2 => cases e4; exact k _ _ J2 (BsOk.append hb hb2)⟩
theorem pm_seq {ps : List Pattern} {n : Nat} {g : List D → R (Option Bs)} (hc : X.calm = true) (h : PMsD X ps n g) (hstar : ps.findIdx? (·.isStar) = none := by rfl) (hwild : (ps.all fun p => p.isWildcard || (p.isStar && p.names.isEmpty)) = false := by rfl) :
    PMD X (.MatchSequence ps pos) (mSeq n g) := ⟨fun I pins s σ H F v u d r Q J sF rv rd e k => by
  unfold mSeq at e
  split at e
  · rename_i ds
    obtain ⟨a, xs, rfl, ha, rs⟩ := (@rp_tup I X.K F v ds).mp rd
    cases (show u = Value.ref a from rv)
    obtain ⟨its, rvs, ht, hlen⟩ := J.tuple (Same.seqT sF ha)
    have l1 := @Rps.length I X.K F xs ds rs
    have l2 := Paired.length rvs
    have hsz : its.toArray.size = ds.length := by rw [List.size_toArray, ← l2, l1]
    have hfit : (its.toArray.size : Int) < 2 ^ 63 := by rw [List.size_toArray, ← l2]; rw [sizeLine_eq] at hlen; omega
    split at e
    · rename_i hn
      refine matchSeq_tuple_hit ht hfit (by rw [hsz, hn, h.len]) ?_ hstar hwild
      have hl : ps.length = its.toArray.size := by rw [hsz, hn, h.len]
      rw [hl]
      refine unpackItems_tuple (J.ok.hd hc) ht fun h' hx => ?_
      have J1 := J.kept (h' := h') (t' := s.toks + 1 + 1) fun b o e => hx b o (Nat.ne_of_lt (Heap.lt_size e)) e
      exact h.run I pins _ σ H F xs _ ds r Q J1 sF (by simpa using rvs) rs e k
    · rename_i hn
      cases e
      exact matchSeq_tuple_miss ht hfit (by rw [hsz, h.len]; exact hn) (k none _ (J.tok _) trivial) hstar hwild
  · cases e⟩
end
def setAll : Bs → En → En
  | [], ρ => ρ
  | (i, d) :: m, ρ => setAll m (ρ.set i (.fz d))
def yCases : List (PF1 × (En → SO)) → D → En → SO
  | [], _ => fun ρ S => .nx ρ S
  | (f, g) :: r, d => fun ρ => match f d with
    | .ok (some bs) => g (setAll bs ρ)
    | .ok none => yCases r d ρ
    | _ => fun _ => .bad
def yMatch (fe : En → SM D) (l : List (PF1 × (En → SO))) : En → SO := fun ρ => sm (fe ρ) ρ fun d => yCases l d ρ
/-- the reading is what the plain function promises -/
def tY (K : PySem.W.Frag) (E : WX) (g : En → SO) : TS := fun D σ H => ∃ (I : Iota) (W F0 : Hp) (ρ : En) (S : Store) (F : Hp), Ok2 I K S W F0 σ ρ F H ∧ Post2 K E W F0 D I (g ρ S)
theorem tY_de {K : PySem.W.Frag} {E : WX} {g : En → SO} : DS2 K E (tY K E g) g := fun I W F0 σ ρ S F H D o q => ⟨I, W, F0, ρ, S, F, o, q⟩
inductive CasesOk (X : Cx) (E : WX) : List MatchCase → List (PF1 × (En → SO)) → Prop
  | nil : CasesOk X E [] []
  | cons {p : Pattern} {body : List Stmt} {f : PF1} {t : TS} {g : En → SO} {cs : List MatchCase} {l : List (PF1 × (En → SO))} (hp : PMD X p f) (hb : PSs2 X E body t g) (r : CasesOk X E cs l) : CasesOk X E (⟨p, none, body⟩ :: cs) ((f, g) :: l)
section
variable {X : Cx} {E : WX}
theorem binds_ok {I : Iota} {W F0 F : Hp} {S : Store} {pins : List (Addr × Obj)} {H : Hp} {Q : Unit → Shared → Prop} (hN : X.N.Nodup) : ∀ {l : List (Str × Value)} {m : Bs} {s : Shared} {σ : L2.St} {ρ : En}, Inv X pins σ H s → BsOk I X F l m → Ok2 I X.K S W F0 σ ρ F H →
    (∀ s' σ', Inv X pins σ' H s' → Ok2 I X.K S W F0 σ' (setAll m ρ) F H → Q () s') → wpAny (model X.prog X.w) X.A (assignInOrder (l.map fun (n, _) => bindName X.env n) (l.map (·.2))) Q X.xe s
  | [], [], s, σ, ρ, J, _, o, k => wpAny_assignInOrder_none (k s σ J o)
  | [], _ :: _, _, _, _, _, h, _, _ => h.elim
  | _ :: _, [], _, _, _, _, h, _, _ => by cases h
  | (n, u) :: l, (i, d) :: m, s, σ, ρ, J, ⟨hi, hx, hf, ⟨v, rv, rd⟩, hr⟩, o, k => by
    refine wpAny_assignInOrder_more ?_
    show wpAny _ _ (bindName X.env n u) _ _ _
    refine wpAny_bindName ?_
    exact store_ok J hN hi hx rv (fun s' J' => binds_ok hN J' hr (o.setF i rd) k) hf
theorem cases_ok (hN : X.N.Nodup) {cs : List MatchCase} {l : List (PF1 × (En → SO))} (h : CasesOk X E cs l) : ∀ {first : Bool} {pins : List (Addr × Obj)} {s : Shared} {σ : L2.St} {H F W F0 : Hp} {I : Iota} {S : Store} {ρ : En} {v : V} {u : Value} {d : D} {En : Ends}, Inv X pins σ H s → Ok2 I X.K S W F0 σ ρ F H → L2.RelV v u → @Rp I X.K F v d →
    Post2 X.K E W F0 En I (yCases l d ρ S) → wpAny (model X.prog X.w) X.A (matchCases cs X.env u first) (SP X pins En) X.xe s := by
  induction h with
  | nil =>
    intro first pins s σ H F W F0 I S ρ v u d En J o rv rd q
    exact wpAny_matchCases_nil ⟨σ, H, J, q I σ F H (Iota.le.refl I) o⟩
  | @cons p body f t g cs l hp hb r ih =>
    intro first pins s σ H F W F0 I S ρ v u d En J o rv rd q
    have q' : Post2 X.K E W F0 En I ((match f d with
      | .ok (some bs) => g (setAll bs ρ)
      | .ok none => yCases l d ρ
      | _ => fun _ => RO.bad) S) := q
    have sub : Same F H := by obtain ⟨V, b, _⟩ := id o; exact (@Ok.toOkB I X.K V F0 σ ρ F H b).sub
    cases hfd : f d with
    | bad => rw [hfd] at q'; exact q'.elim
    | err x => rw [hfd] at q'; exact q'.elim
    | ok rr =>
      rw [hfd] at q'
      refine wpAny_matchCases_cons (hp.run I pins s σ H F v u d rr _ J sub rv rd hfd fun bs s1 J1 hbs => ?_)
      cases rr with
      | none =>
        cases bs with
        | none => exact ih J1 o rv rd q'
        | some _ => exact hbs.elim
      | some m =>
        cases bs with
        | none => exact hbs.elim
        | some l1 =>
          refine binds_ok hN J1 hbs o fun s2 σ2 J2 o2 => ?_
          exact hb.pe.run pins s2 σ2 H En J2 (hb.de I W F0 σ2 (setAll m ρ) S F H En o2 q')
theorem ps2_match {pos : Pos} {e : Expr} {te : TE} {fe : En → SM D} {cs : List MatchCase} {l : List (PF1 × (En → SO))} (hN : X.N.Nodup) (he : PE2 X E e te fe) (h : CasesOk X E cs l) : PS2 X E (.Match e cs pos) (tY X.K E (yMatch fe l)) (yMatch fe l) := by
  refine ⟨⟨fun pins s σ H D J ht => ?_⟩, tY_de⟩
  obtain ⟨I, W, F0, ρ, S, F, o, q⟩ := ht
  refine wpAny_Match ?_
  have hd := he.de I W F0 σ ρ S F H (fun v H1 => ∃ (L : Iota) (d : DD.D) (S1 : Store) (F1 : Hp), Ok2 L X.K S1 W F0 σ ρ F1 H1 ∧ @Rp L X.K F1 v d ∧ Post2 X.K E W F0 D L (yCases l d ρ S1)) o ((sm_g q).imp (fun d S1 g1 L v F1 H1 l1 o1 s1 r1 => ⟨L, d, S1, F1, o1, r1, Post2.mono l1 g1⟩) fun _ _ h => h)
  refine thn (he.pe.run pins s σ H _ J hd) fun u s1 ⟨v, H1, J1, rv, L, d, S1, F1, o1, r1, q1⟩ => ?_
  exact cases_ok hN h J1 o1 rv r1 q1
end
end DD

/-! SL22: dict comprehensions into dicts of either kind (keys plain, or tuples) -/
namespace DD
open PySem PySem.Spec PyProof.Rows L2
abbrev St := L2.St

/-- d[y] = v by a comprehension -/
theorem d_setC {X : Cx} {pins : List (Addr × Obj)} {σ : L2.St} {H H' : Hp} {s : Shared} {E : Value → Shared → Prop} {a : Addr} {y v : V} {u r : Value} {Q : Unit → Shared → Prop} (hu : X.A.units + 1 < cLine) (I : Inv X pins σ H s) (g : DPut H a y v H') (ry : L2.RelV y u) (rv : L2.RelV v r)
    (h : ∀ s', Inv X pins σ H' s' → Q () s') : wpAny (model X.prog X.w) X.A (dictSet a u r) Q E s := by
  rcases g with ⟨kvs, k, e, ey, l, eH⟩ | ⟨kvs, k, b, e, ey, eb, l, eH⟩
  · subst ey eH
    exact d_dictSet I e l ry rv h
  · subst ey eH
    cases (show u = Value.ref b from ry)
    obtain ⟨z, hd, xs, rel, dd⟩ := L2.dt_of I.hok e
    have hz : xs.length ≤ sizeLine := by rw [← Paired.length rel]; exact z
    have hl : (putK kvs k v).length ≤ sizeLine := by have := length_putK kvs k v; omega
    refine wpAny_dictSet_heap (hsz := hz) (show X.A.units < cLine from by omega) (key_of I.hok eb) dd fun h' dd' hs => h _ ?_
    obtain ⟨q, es, ep, hq, h2, h3, h4, _, h5⟩ := dd'
    refine d_write I (by rw [e]; exact True.intro) hs ⟨q, hq⟩ ⟨hl, hd, _, (rel.put k eb rv).keeps fun c ys ec => ?_, q, es, ep, hq, h2, h3, h4, h5⟩
    rw [upd_ne (ne_of ec e (fun z => nomatch z))]
    exact ec
section
variable {X : Cx} {u0 : HO}
/-- {k: v for target in iter if ..}; u0: the new dict's kind, empty -/
def tDcG (u0 : HO) (wi : TI) (g : TG) (tt : TT) (tk tv : TE) (vs : List Nat) : TE := fun σ H Q => wi σ H fun J H1 => ∀ D, H1 D = none → ∃ W : Nat → Nat → Hp → Prop, (∃ m, W 0 m (upd H1 D u0)) ∧ ∀ i m H, W i m H →
  (J.stop i H ∧ Q (.ref D) H) ∨ (J.go i H ∧ ∃ Nx : Hp → Prop, (∀ H', Nx H' → ∃ m', m' < m ∧ W (i + 1) m' H') ∧ ∀ x H', J.yld i H x H' → g x (wipe σ vs) H' fun σ2 H2 => wipe σ2 vs = wipe σ vs ∧ tt σ2 H2 fun b H3 =>
    if b = true then tk σ2 H3 fun y H4 => tv σ2 H4 fun z H5 => ∃ H6, DPut H5 D y z H6 ∧ Nx H6 else Nx H3)
theorem dcG_core {pins : List (Addr × Obj)} {s : Shared} {σ : St} {H : Hp} {Q : VK} {kx vx tg iter : Expr} {ifs : List Expr} {scope : Scope} {own : List (Str × Nat)} {pos pos' : Pos} {wi : TI} {g : TG} {tt : TT} {tk tv : TE} {use : Option (Value → Sem Unit)} {Qf : Value → Shared → Prop}
    (hu0 : ∀ {P : Program} {w : World} {H : Hp} (h : Heap), sysModules < h.objs.size → ObjOk P w H (h.push { cls := .type "dict", data := .dict #[] }) h.objs.size u0) (hu : X.A.units + 1 < cLine) (hc : X.calm = true) (hN : X.N.Nodup) (I : Inv X pins σ H s) (hi : PI X tg iter wi) (ok : BlkOk X.N X.env.scope scope own)
    (hg : ∀ (s : Shared) (H : Hp) (C : Addr) (cl : List (Str × Addr)) (fp : List Addr), PG (X.blk s H scope (compEnvC scope cl C X.env) fp) tg g) (ht : ∀ (s : Shared) (H : Hp) (C : Addr) (cl : List (Str × Addr)) (fp : List Addr), PTs (X.blk s H scope (compEnvC scope cl C X.env) fp) ifs tt)
    (hk : ∀ (s : Shared) (H : Hp) (C : Addr) (cl : List (Str × Addr)) (fp : List Addr), PE (X.blk s H scope (compEnvC scope cl C X.env) fp) kx tk)
    (he : ∀ (s : Shared) (H : Hp) (C : Addr) (cl : List (Str × Addr)) (fp : List Addr), PE (X.blk s H scope (compEnvC scope cl C X.env) fp) vx tv) (hs : ∀ x, foldedSetIterable iter X.env x = pure x)
    (h : tDcG u0 wi g tt tk tv (own.map (·.2)) σ H Q)
    (hRR : ∀ D C s' m H', Inv X pins σ H' s' → Q (.ref D) H' → s'.heap.Ns C m → FpOk X pins H' C → compPost (model X.prog X.w) X.A X.xe use Qf (.ref D) C (.ok .next) s') :
    wpAny (model X.prog X.w) X.A (comprehension (.DictComp kx vx [⟨tg, iter, ifs, 0⟩] scope pos) scope X.env pos' newDict false (eval iter X.env) use) Qf X.xe s := by
  have hfree : ∀ y ∈ scope.names, y.2 = .free → ∃ c, X.env.cells.lookup y.1 = some c := fun y hy e => by
    rcases ok.free y hy e with k | k
    · exact I.ok.has _ (.inl k)
    · exact I.ok.has _ (.inr k)
  refine wpAny_comprehension_free (use := use) rfl hs (closure_ok hfree) ok.kind (fun y hy e => by rw [ok.uniq y hy, e])
    (thn (hi.run pins s σ H _ I h) fun xv s1 hx => thn hx fun itv s2 h2 => ?_)
  obtain ⟨it, fp, tn, J, H2, e, I2, T, st2, f2, q⟩ := h2
  subst e
  refine wpAny_newObj_type (newEnv_comp ?_)
  generalize hD : s2.heap.objs.size = D
  have hDn : H2 D = none := I2.hok.fresh (Nat.le_of_eq hD)
  obtain ⟨W, ⟨m0, w0⟩, turn⟩ := q D hDn
  -- the new list
  generalize hs3 : ({ s2 with heap := s2.heap.push { cls := .type "dict", data := .dict #[] } } : Shared) = s3
  have I3 : Inv X pins σ (upd H2 D u0) s3 := by
    rw [← hs3]
    refine I2.laid (t' := s2.toks) (fun b o e => Heap.get?_push_of_some _ e) (Nat.le_of_eq hD) ?_
    rw [← hD]
    exact hu0 s2.heap I2.big
  have h3 : s3.heap = s2.heap.push { cls := .type "dict", data := .dict #[] } := by rw [← hs3]
  have sz : ∀ b ∈ fp, b < s2.heap.objs.size := fun b hb => by
    obtain ⟨o, e, _⟩ := T.obj _ _ st2 b hb
    exact Heap.lt_size e
  have f3 : ∀ b ∈ fp, FpOk X pins (upd H2 D u0) b ∧ b < s3.heap.objs.size := fun b hb => by
    have hlt := sz b hb
    refine ⟨⟨?_, (f2 b hb).2⟩, by rw [h3, Heap.size_push]; exact Nat.lt_succ_of_lt hlt⟩
    rw [upd_ne (by rw [← hD]; exact Nat.ne_of_lt hlt)]
    exact (f2 b hb).1
  have st3 : tn 0 s3.heap := T.keep _ _ _ st2 fun b _ o e => by rw [h3]; exact Heap.get?_push_of_some _ e
  have I4 := block_start I3 ok hN f3
  have pg := hg s3 (upd H2 D u0) s3.heap.objs.size (cellsFrom (s3.heap.objs.size + 1) scope.names (cloFrom X.env.cells scope.names [])) fp
  have pt := ht s3 (upd H2 D u0) s3.heap.objs.size (cellsFrom (s3.heap.objs.size + 1) scope.names (cloFrom X.env.cells scope.names [])) fp
  have pk := hk s3 (upd H2 D u0) s3.heap.objs.size (cellsFrom (s3.heap.objs.size + 1) scope.names (cloFrom X.env.cells scope.names [])) fp
  have pe := he s3 (upd H2 D u0) s3.heap.objs.size (cellsFrom (s3.heap.objs.size + 1) scope.names (cloFrom X.env.cells scope.names [])) fp
  show codeAny _ _ (.compStart (.DictComp kx vx [⟨tg, iter, ifs, 0⟩] scope pos) 0 (.ref it) (.ref D) (compEnvC scope (cellsFrom (s3.heap.objs.size + 1) scope.names (cloFrom X.env.cells scope.names [])) s3.heap.objs.size X.env)) (compPost (model X.prog X.w) X.A X.xe use Qf (.ref D) s3.heap.objs.size) { s3 with heap := pushCells (s3.heap.push { cls := .type "dict", data := .dict #[] }) scope.names }
  have nfp : ∀ b ∈ fp, (upd H2 D u0) b = none := fun b hb => (f3 b hb).1.1
  generalize hce : compEnvC scope (cellsFrom (s3.heap.objs.size + 1) scope.names (cloFrom X.env.cells scope.names [])) s3.heap.objs.size X.env = ce at I4 pg pt pk pe ⊢
  have cL : ce.locals = s3.heap.objs.size := by subst hce; rfl
  generalize hH3 : upd H2 D u0 = H3 at I3 I4 pg pt pk pe w0 nfp f3
  generalize hs4 : ({ s3 with heap := pushCells (s3.heap.push { cls := .type "dict", data := .dict #[] }) scope.names } : Shared) = s4 at I4 ⊢
  have st4 : tn 0 s4.heap := T.keep _ _ _ st3 fun b _ o e => by rw [← hs4]; exact pushCells_keeps _ _ _ _ (Heap.get?_push_of_some _ e)
  have stat : ∀ {σ' : St} {H' : Hp} {s' : Shared}, Inv (X.blk s3 H3 scope ce fp) [] σ' H' s' → (∀ b ∈ fp, H' b = none) → ∀ b ∈ fp, FpOk (X.blk s3 H3 scope ce fp) [] H' b := fun {σ' H' s'} I' hn b hb =>
    ⟨hn b hb, (I'.ok.exf b hb).1, I'.ok.exfs b hb, .inl hb, fun x c e => (I'.ok.exf b hb).2 x c e, fun p hp => absurd (show p ∈ ([] : List (Addr × Obj)) ++ [] from hp) (by simp)⟩
  have loop : codeAny (model X.prog X.w) X.A (.compLoop (.DictComp kx vx [⟨tg, iter, ifs, 0⟩] scope pos) 0 (.ref it) (.ref D) ce) (compPost (model X.prog X.w) X.A X.xe use Qf (.ref D) s3.heap.objs.size) s4 := by
    refine compLoop_anyD (fun n s' => ∃ i H', Inv (X.blk s3 H3 scope ce fp) [] (wipe σ (own.map (·.2))) H' s' ∧ tn i s'.heap ∧ (∀ b ∈ fp, H' b = none) ∧ W i n H') ?_ m0 ⟨0, H3, I4, st4, nfp, w0⟩
    rintro n s5 ⟨i, H5, I5, st5, n5, w5⟩
    rcases turn i n H5 w5 with ⟨stop, qq⟩ | ⟨go, Nx, hNx, step⟩
    · have td := T.done (X.blk s3 H3 scope ce fp) rfl rfl rfl hc i [] s5 _ H5 (fun _ _ => False) I5 (stat I5 n5) st5 stop
      refine thnF td fun r s6 ⟨hr, I6⟩ => ?_
      subst hr
      -- back in the def's context
      have I7 : Inv X pins σ H5 s6 := I3.call' (ch := fp) I6.os I6.base I6.hok I6.bare fun b hb => ⟨(f3 b hb).1.2.2.2.1, (f3 b hb).1.2.1, (f3 b hb).1.2.2.2.2.1, (f3 b hb).1.2.2.2.2.2⟩
      have nC : H5 s3.heap.objs.size = none := by
        have z : H5 ce.locals = none := I6.free
        rw [cL] at z
        exact z
      obtain ⟨m, hn, _⟩ := I6.loc
      have hn : s6.heap.Ns ce.locals m := hn
      rw [cL] at hn
      exact hRR D s3.heap.objs.size s6 m H5 I7 qq hn (I3.fpOk (Nat.le_refl _) nC)
    · have ti := T.item (X.blk s3 H3 scope ce fp) rfl rfl rfl hc i [] s5 _ H5 (fun _ _ => False) I5 (stat I5 n5) st5 go
      refine thnF ti fun r s6 ⟨u, hr, h6⟩ => ?_
      subst hr
      refine thnF h6 fun _ s7 ⟨x, H7, I7, r7, y7, st7, n7⟩ => ?_
      have I7' := I7.pinned (stat I7 n7) (T.obj _ _ st7)
      refine thnF (pg.run _ s7 _ H7 x u _ I7' r7 (step x H7 y7)) fun _ s8 ⟨σ8, H8, I8, hw8, q8⟩ => ?_
      refine thnF (pt.run _ s8 σ8 H8 _ I8 q8) fun b s9 ⟨H9, I9, q9⟩ => ?_
      -- the turn's end
      have fin : ∀ {s' : Shared} {H' : Hp}, Inv (X.blk s3 H3 scope ce fp) ([] ++ pinsAt fp s7.heap) σ8 H' s' → Nx H' → ∃ m, m < n ∧ ∃ i H', Inv (X.blk s3 H3 scope ce fp) [] (wipe σ (own.map (·.2))) H' s' ∧ tn i s'.heap ∧ (∀ b ∈ fp, H' b = none) ∧ W i m H' := fun {s' H'} I' nx => by
        obtain ⟨m', hm, w'⟩ := hNx H' nx
        have pin' : ∀ b ∈ fp, ∀ o, s7.heap.get? b = some o → s'.heap.get? b = some o ∧ H' b = none := fun b hb o e =>
          let z := I'.pin (b, o) (List.mem_append_right _ (List.mem_append_right _ (mem_pinsAt hb e)))
          ⟨z.1, z.2.1⟩
        have hl : (wipe σ (own.map (·.2))).length = σ8.length := by rw [← hw8, wipe_length]
        refine ⟨m', hm, i + 1, H', (I'.unpinned (pins := [])).weak hl (fun j v e => ?_), T.keep _ _ _ st7 fun b hb o e => (pin' b hb o e).1, fun b hb => ?_, w'⟩
        · rw [← hw8] at e
          exact (wipe_some e).1
        · obtain ⟨o, e, _⟩ := T.obj _ _ st7 b hb
          exact (pin' b hb o e).2
      cases b with
      | false =>
        simp only [Bool.false_eq_true, if_false] at q9 ⊢
        exact fin I9 q9
      | true =>
        simp only [if_true] at q9 ⊢
        refine thnF (pk.run _ s9 σ8 H9 _ I9 q9) fun z s10 ⟨yk, H10, I10, r10, q10⟩ => ?_
        refine thnF (pe.run _ s10 σ8 H10 _ I10 q10) fun z2 s11 ⟨yv, H11, I11, r11, H12, dp, nx⟩ => ?_
        exact d_setC (X := X.blk s3 H3 scope ce fp) hu I11 dp r10 r11 fun s12 I12 => fin I12 nx
  exact codeAny_compStart_dict loop (T.self X.A 0 _ _ _ st4 loop)
/-- as a value -/
theorem pe_dcG {kx vx tg iter : Expr} {ifs : List Expr} {scope : Scope} {own : List (Str × Nat)} {pos : Pos} {wi : TI} {g : TG} {tt : TT} {tk tv : TE} (hu0 : ∀ {P : Program} {w : World} {H : Hp} (h : Heap), sysModules < h.objs.size → ObjOk P w H (h.push { cls := .type "dict", data := .dict #[] }) h.objs.size u0) (hu : X.A.units + 1 < cLine) (hc : X.calm = true) (hN : X.N.Nodup) (hi : PI X tg iter wi) (ok : BlkOk X.N X.env.scope scope own)
    (hg : ∀ (s : Shared) (H : Hp) (C : Addr) (cl : List (Str × Addr)) (fp : List Addr), PG (X.blk s H scope (compEnvC scope cl C X.env) fp) tg g) (ht : ∀ (s : Shared) (H : Hp) (C : Addr) (cl : List (Str × Addr)) (fp : List Addr), PTs (X.blk s H scope (compEnvC scope cl C X.env) fp) ifs tt)
    (hk : ∀ (s : Shared) (H : Hp) (C : Addr) (cl : List (Str × Addr)) (fp : List Addr), PE (X.blk s H scope (compEnvC scope cl C X.env) fp) kx tk)
    (he : ∀ (s : Shared) (H : Hp) (C : Addr) (cl : List (Str × Addr)) (fp : List Addr), PE (X.blk s H scope (compEnvC scope cl C X.env) fp) vx tv) (hs : ∀ x, foldedSetIterable iter X.env x = pure x := by intro _; rfl) :
    PE X (.DictComp kx vx [⟨tg, iter, ifs, 0⟩] scope pos) (tDcG u0 wi g tt tk tv (own.map (·.2))) := by
  refine ⟨fun pins s σ H Q I h => ?_⟩
  rw [arm_eval_DictComp]
  refine dcG_core hu0 hu hc hN I hi ok hg ht hk he hs h fun D C s' m H' I' q hn f => ⟨m, hn, fun h'' sb => ?_⟩
  obtain ⟨f0, f1, f2, f3, f4, f5⟩ := f
  exact ⟨.ref D, H', I'.turned (t' := s'.toks) (fun b o hb e => (sb.2 b hb).trans e) f0 f1 f3 f4 f5, rfl, q⟩
end
end DD

/-! SL23: dicts of the store (and frozen ones): d[k], k in d, d.get, d[k] = v -/
namespace DD
open PySem PySem.Spec PyProof.Rows L2

/-! ### tables -/
section
variable {κ : Type} [DecidableEq κ]
def lookG (ks : List κ) (ds : List D) (k : κ) : Option D := ((ks.zip ds).find? fun kv => decide (kv.1 = k)).map (·.2)
def putKk (ks : List κ) (k : κ) : List κ := if k ∈ ks then ks else ks ++ [k]
def putAt {α : Type} (ks : List κ) (xs : List α) (k : κ) (x : α) : List α := if k ∈ ks then (ks.zip xs).map (fun p => if p.1 = k then x else p.2) else xs ++ [x]
theorem lookG_ok {I : Iota} {K : PySem.W.Frag} {F : Hp} (k : κ) : ∀ {ks : List κ} {xs : List V} {ds : List D}, ks.length = xs.length → @Rps I K F xs ds → (∀ d, lookG ks ds k = some d → ∃ v, valV (ks.zip xs) k = some v ∧ @Rp I K F v d) ∧ (lookG ks ds k = none → valV (ks.zip xs) k = none)
  | [], xs, ds, _, _ => ⟨fun d h => by simp [lookG] at h, fun _ => by simp [valV]⟩
  | k' :: ks, [], ds, h, _ => by simp at h
  | k' :: ks, x :: xs, [], h, r => by have := @Rps.length I K F _ _ r; simp at this
  | k' :: ks, x :: xs, d :: ds, h, r => by
    obtain ⟨y, ys, e, r1, r2⟩ := @Rps.of_cons I K F _ _ _ r
    cases e
    have ih := lookG_ok (F := F) k (ks := ks) (xs := xs) (ds := ds) (by simpa using h) r2
    by_cases hk : k' = k
    · subst hk
      refine ⟨fun d' hd => ?_, fun hn => ?_⟩
      · simp [lookG] at hd
        subst hd
        exact ⟨x, valV_pos rfl, r1⟩
      · simp [lookG] at hn
    · have e1 : lookG (k' :: ks) (d :: ds) k = lookG ks ds k := by simp [lookG, List.find?_cons, hk]
      rw [e1, List.zip_cons_cons, valV_neg (p := (k', x)) hk]
      exact ih
theorem any_mem (k : κ) : ∀ {ks : List κ} {vs : List V}, ks.length = vs.length → ((ks.zip vs).any fun kv => decide (kv.1 = k)) = decide (k ∈ ks)
  | [], vs, _ => by simp
  | k' :: ks, [], h => by simp at h
  | k' :: ks, v :: vs, h => by
    rw [List.zip_cons_cons, List.any_cons, any_mem k (by simpa using h)]
    by_cases e : k' = k
    · subst e; simp
    · have e' : ¬ k = k' := fun z => e z.symm
      simp [e, e']
theorem zip_putK {k : κ} {v : V} {ks : List κ} {vs : List V} (h : ks.length = vs.length) : putK (ks.zip vs) k v = (putKk ks k).zip (putAt ks vs k v) := by
  unfold putK putKk putAt
  rw [any_mem k h]
  by_cases e : k ∈ ks
  · rw [if_pos (decide_eq_true e), if_pos e, if_pos e]
    have go : ∀ {ks : List κ} {vs : List V}, ks.length = vs.length → (ks.zip vs).map (fun kv => if kv.1 = k then (kv.1, v) else kv) = ks.zip ((ks.zip vs).map fun p => if p.1 = k then v else p.2) := by
      intro ks
      induction ks with
      | nil => intro vs _; simp
      | cons a ks ih =>
        intro vs h
        cases vs with
        | nil => simp at h
        | cons b vs =>
          rw [List.zip_cons_cons, List.map_cons, List.map_cons, List.zip_cons_cons, ih (by simpa using h)]
          by_cases ea : a = k
          · simp [ea]
          · simp [ea]
    exact go h
  · rw [if_neg (by rw [decide_eq_false e]; exact Bool.false_ne_true), if_neg e, if_neg e, List.zip_append h]
    rfl
theorem putKk_len {α : Type} {k : κ} {x : α} {ks : List κ} {xs : List α} (h : ks.length = xs.length) : (putKk ks k).length = (putAt ks xs k x).length := by
  unfold putKk putAt
  by_cases e : k ∈ ks
  · rw [if_pos e, if_pos e, List.length_map, List.length_zip, h, Nat.min_self]
  · rw [if_neg e, if_neg e, List.length_append, List.length_append, h]; rfl
theorem rps_putAt {I : Iota} {K : PySem.W.Frag} {F : Hp} {k : κ} {v : V} {d : D} (rv : @Rp I K F v d) {ks : List κ} {vs : List V} {ds : List D} (h : ks.length = vs.length) (r : @Rps I K F vs ds) : @Rps I K F (putAt ks vs k v) (putAt ks ds k d) := by
  unfold putAt
  have l := @Rps.length I K F vs ds r
  by_cases e : k ∈ ks
  · rw [if_pos e, if_pos e]
    refine @Rps.of I K F _ _ (by simp [h, l]) fun i w c h1 h2 => ?_
    rw [List.getElem?_map] at h1 h2
    obtain ⟨⟨k1, w1⟩, e1, f1⟩ := Option.map_eq_some_iff.mp h1
    obtain ⟨⟨k2, c1⟩, e2, f2⟩ := Option.map_eq_some_iff.mp h2
    rw [List.getElem?_zip_eq_some] at e1 e2
    have ek : k1 = k2 := Option.some.inj (e1.1.symm.trans e2.1)
    subst ek
    dsimp only at f1 f2
    by_cases hk : k1 = k
    · rw [if_pos hk] at f1 f2
      subst f1 f2
      exact rv
    · rw [if_neg hk] at f1 f2
      subst f1 f2
      obtain ⟨d', e3, r'⟩ := @Rps.getV I K F vs ds i _ r e1.2
      rw [e2.2] at e3
      cases e3
      exact r'
  · rw [if_neg e, if_neg e]
    exact @Rps.append I K F _ _ _ _ r (@Rps.one I K F _ _ rv)
end
/-! ### keys -/
def keysR : List D → R (List Key)
  | [] => .ok []
  | d :: ds => asKey d >>= fun k => keysR ds >>= fun ks => .ok (k :: ks)
def keyT : D → R (List Key)
  | .tup ds => keysR ds
  | _ => .bad
theorem keysR_ok {I : Iota} {K : PySem.W.Frag} {F : Hp} : ∀ {vs : List V} {ds : List D} {ks : List Key}, @Rps I K F vs ds → keysR ds = .ok ks → vs = ks.map kV
  | vs, [], ks, r, h => by cases h; exact @Rps.of_nil I K F vs r
  | vs, d :: ds, ks, r, h => by
    obtain ⟨y, ys, rfl, ry, rs⟩ := @Rps.of_cons I K F vs d ds r
    obtain ⟨k, e1, h⟩ := R.of_bind h
    obtain ⟨kr, e2, h⟩ := R.of_bind h
    cases h
    rw [@asKey_ok I K F y d k ry e1, keysR_ok rs e2]
    rfl
theorem keyT_ok {I : Iota} {K : PySem.W.Frag} {F : Hp} {v : V} {d : D} {k : List Key} (r : @Rp I K F v d) (h : keyT d = .ok k) : ∃ b, v = .ref b ∧ F b = some (.tup (k.map kV)) := by
  cases d <;> first | (cases h; done) | skip
  obtain ⟨a, xs, rfl, ha, rs⟩ := (@rp_tup I K F v _).mp r
  rw [keysR_ok rs h] at ha
  exact ⟨a, rfl, ha⟩
/-- what the dict x holds at k -/
def dgetS (x k : D) (S : Store) : R (Option D) := match x with
  | .ref n => (match S[n]? with
    | some (.dK ks ds) => asKey k >>= fun k => .ok (lookG ks ds k)
    | some (.dT ks ds) => keyT k >>= fun k => .ok (lookG ks ds k)
    | _ => .bad)
  | .dic ks ds => asKey k >>= fun k => .ok (lookG ks ds k)
  | _ => .bad
section
variable {K : PySem.W.Frag} {I : Iota} {W F0 F H : Hp} {σ : L2.St} {ρ : En} {S : Store}
theorem Ok2.subF (o : Ok2 I K S W F0 σ ρ F H) : Same F H := by obtain ⟨V, b, _⟩ := id o; exact (@Ok.toOkB I K V F0 σ ρ F H b).sub
theorem dget_ok (o : Ok2 I K S W F0 σ ρ F H) {x k : V} {dx dk : D} {r : Option D} (rx : @Rp I K F x dx) (rk : @Rp I K F k dk) (h : dgetS dx dk S = .ok r) :
    ∃ a ov, x = .ref a ∧ DGet H a k ov ∧ (∀ d, r = some d → ∃ v, ov = some v ∧ @Rp I K F v d) ∧ (r = none → ov = none) := by
  unfold dgetS at h
  split at h
  · rename_i n
    obtain ⟨a, rfl, ha⟩ := (@rp_ref I K F x n).mp rx
    split at h
    · rename_i ks ds hS
      obtain ⟨kk, e1, e2⟩ := R.of_bind h
      cases e2
      obtain ⟨vs, e, l, rv⟩ := o.get hS ha
      have ek := @asKey_ok I K F k dk kk rk e1
      subst ek
      obtain ⟨g1, g2⟩ := lookG_ok (F := F) kk l rv
      exact ⟨a, _, rfl, DGet.k e, g1, g2⟩
    · rename_i ks ds hS
      obtain ⟨kk, e1, e2⟩ := R.of_bind h
      cases e2
      obtain ⟨vs, e, l, rv⟩ := o.get hS ha
      obtain ⟨b, rfl, hb⟩ := keyT_ok rk e1
      obtain ⟨g1, g2⟩ := lookG_ok (F := F) kk l rv
      exact ⟨a, _, rfl, DGet.t e (o.subF _ _ hb), g1, g2⟩
    · cases h
  · rename_i ks ds
    obtain ⟨kk, e1, e2⟩ := R.of_bind h
    cases e2
    obtain ⟨a, xs, rfl, ha, hl, r⟩ := (@rp_dic I K F x ks ds).mp rx
    have ek := @asKey_ok I K F k dk kk rk e1
    subst ek
    obtain ⟨g1, g2⟩ := lookG_ok (F := F) kk hl r
    exact ⟨a, _, rfl, DGet.k (o.subF _ _ ha), g1, g2⟩
  · cases h
end
/-! ### x[i] of any kind -/
def rIxD : R2 := fun x y H Q => ∃ a v, x = .ref a ∧ DGet H a y (some v) ∧ Q v H
def rIx2 (K : PySem.W.Frag) : R2 := fun x y H Q => rIx K x y H Q ∨ rIxD x y H Q
theorem ix_dict {X : Cx} (hu : X.A.units + 1 < cLine) : IxR X rIxD := by
  intro value slice pins s σ H x y v u Q I rx ry h hs
  obtain ⟨a, w, rfl, g, q⟩ := h
  obtain rfl : v = Value.ref a := rx
  exact tail_any (dict_typeIs I g) PySem.F.slot_dict_getitem.lookup (d_getItem hu I g ry fun w' s3 I3 rw' => ⟨w, H, I3, rw', q⟩) hs
theorem ix_all {X : Cx} (hu : X.A.units + 1 < cLine) : IxR X (rIx2 X.K) := ix_seq.or (ix_dict hu)
def isDct (x : D) (S : Store) : Bool := match x with
  | .ref n => (match S[n]? with
    | some (.dK _ _) => true
    | some (.dT _ _) => true
    | _ => false)
  | .dic _ _ => true
  | _ => false
def ixD (x y : D) : SM D := fun S => if isDct x S = true then (match dgetS x y S with
  | .ok (some d) => .ok d S
  | _ => .bad) else ixS x y S
theorem dq2_ixD {K : PySem.W.Frag} : DQ2 K (rIx2 K) ixD := by
  refine ⟨fun I W F0 σ ρ S F H x y dx dy Q o rx ry g0 => ?_, fun x y S e S' => ?_⟩
  · unfold ixD at g0
    by_cases hd : isDct dx S = true
    · rw [if_pos hd] at g0
      cases hg : dgetS dx dy S with
      | bad => rw [hg] at g0; exact g0.elim
      | err x => rw [hg] at g0; exact g0.elim
      | ok r =>
        rw [hg] at g0
        cases r with
        | none => exact g0.elim
        | some d =>
          obtain ⟨a, ov, rfl, g, h1, _⟩ := dget_ok o rx ry hg
          obtain ⟨v, rfl, rv⟩ := h1 d rfl
          exact .inr ⟨a, v, rfl, g, g0 I v F H (Iota.le.refl I) o (Same.refl _) rv⟩
    · rw [if_neg hd] at g0
      exact .inl (dq2_ix.run I W F0 σ ρ S F H x y dx dy Q o rx ry g0)
  · unfold ixD
    split
    · split <;> exact fun h => nomatch h
    · exact (dq2_ix (K := K)).ne x y S e S'
/-! ### k in x of any kind -/
def rInD2 (neg : Bool) : R2 := fun y x H Q => ∃ a o, x = .ref a ∧ DGet H a y o ∧ Q (.bl (if neg then !o.isSome else o.isSome)) H
theorem op_inD2 {X : Cx} (hu : X.A.units + 1 < cLine) : OpR X (compareOp .In) (rInD2 false) := by
  intro pins s σ H x y v u Q I rx ry h
  obtain ⟨a, o, rfl, g, q⟩ := h
  obtain rfl : u = Value.ref a := ry
  exact d_in hu I g rx fun s3 I3 => ⟨.bl o.isSome, H, I3, rfl, q⟩
theorem op_notInD2 {X : Cx} (hu : X.A.units + 1 < cLine) : OpR X (compareOp .NotIn) (rInD2 true) := by
  intro pins s σ H x y v u Q I rx ry h
  obtain ⟨a, o, rfl, g, q⟩ := h
  obtain rfl : u = Value.ref a := ry
  exact d_notIn hu I g rx fun s3 I3 => ⟨.bl (!o.isSome), H, I3, rfl, q⟩
def rIn2 (K : PySem.W.Frag) (neg : Bool) : R2 := fun x y H Q => rInA K neg x y H Q ∨ rInD2 neg x y H Q
theorem op_in2 {X : Cx} (hu : X.A.units + 1 < cLine) : OpR X (compareOp .In) (rIn2 X.K false) := (@op_inA ⟨[]⟩ X).or (op_inD2 hu)
theorem op_notIn2 {X : Cx} (hu : X.A.units + 1 < cLine) : OpR X (compareOp .NotIn) (rIn2 X.K true) := (@op_notInA ⟨[]⟩ X).or (op_notInD2 hu)
/-- k in a sequence -/
def inQ2 (neg : Bool) (k x : D) : R D := inB k x >>= fun b => .ok (.bl (if neg then !b else b))
def inL (neg : Bool) (k x : D) : SM D := fun S => match x with
  | .ref n => (match sLst S n with
    | some ds => SM.lift (inQ2 neg k (.lst ds)) S
    | none => .bad)
  | x => SM.lift (inQ2 neg k x) S
def inS (neg : Bool) (k x : D) : SM D := fun S => if isDct x S = true then (match dgetS x k S with
  | .ok r => .ok (.bl (if neg then !r.isSome else r.isSome)) S
  | _ => .bad) else inL neg k x S
theorem in_dct {K : PySem.W.Frag} {neg : Bool} {I : Iota} {W F0 F H : Hp} {σ : L2.St} {ρ : En} {S : Store} {x y : V} {dx dy : D} {Q : VK} (o : Ok2 I K S W F0 σ ρ F H) (rx : @Rp I K F x dx) (ry : @Rp I K F y dy) (hd : isDct dy S = true)
    (g0 : G2 (inS neg dx dy S) (fun d S' => ∀ (J : Iota) v F' H', Iota.le I J → Ok2 J K S' W F0 σ ρ F' H' → Same F F' → @Rp J K F' v d → Q v H') (fun _ _ => False)) : rInD2 neg x y H Q := by
  unfold inS at g0
  rw [if_pos hd] at g0
  cases hg : dgetS dy dx S with
  | bad => rw [hg] at g0; exact g0.elim
  | err x => rw [hg] at g0; exact g0.elim
  | ok r =>
    rw [hg] at g0
    obtain ⟨a, ov, rfl, g, h1, h2⟩ := dget_ok o ry rx hg
    have e : r.isSome = ov.isSome := by
      cases r with
      | none => rw [h2 rfl]; rfl
      | some d => obtain ⟨v, e, _⟩ := h1 d rfl; rw [e]; rfl
    refine ⟨a, ov, rfl, g, g0 I _ F H (Iota.le.refl I) o (Same.refl _) ?_⟩
    rw [← e]
    exact (@rp_bl I K F _ _).mpr rfl
theorem in_seq {K : PySem.W.Frag} {neg : Bool} {I : Iota} {W F0 F H : Hp} {σ : L2.St} {ρ : En} {S : Store} {x y : V} {dx dy : D} {Q : VK} (o : Ok2 I K S W F0 σ ρ F H) (rx : @Rp I K F x dx) (ry : @Rp I K F y dy)
    (g0 : G2 (inL neg dx dy S) (fun d S' => ∀ (J : Iota) v F' H', Iota.le I J → Ok2 J K S' W F0 σ ρ F' H' → Same F F' → @Rp J K F' v d → Q v H') (fun _ _ => False)) : rInA K neg x y H Q := by
  by_cases hx : ∃ n, dy = .ref n
  · obtain ⟨n, rfl⟩ := hx
    have g1 : G2 (match sLst S n with
      | some ds => SM.lift (inQ2 neg dx (.lst ds)) S
      | none => RS.bad) _ _ := g0
    cases hl : sLst S n with
    | none => rw [hl] at g1; exact g1.elim
    | some ds =>
      rw [hl] at g1
      obtain ⟨d, e, k⟩ := G2.of_lift g1
      obtain ⟨b, e1, e2⟩ := R.of_bind e
      cases e2
      obtain ⟨a, vs, rfl, ha, hv, rv, _⟩ := sLst_at o hl ry
      obtain ⟨u, g, h⟩ := R.of_bind (show (guardR (flatD dx && ds.all flatD) >>= fun _ => R.ok (ds.any fun d => eqD d dx)) = R.ok b from by
        rw [← e1]; cases dx <;> rfl)
      cases h
      have g' := of_guard g
      rw [Bool.and_eq_true] at g'
      refine .inr ⟨a, vs, rfl, .inl (SqL.of hv), @flat_ok I K F x dx rx g'.1, @flats_ok I K F vs ds rv g'.2, ?_⟩
      rw [@in_ok I K F x dx rx g'.1 vs ds rv g'.2]
      exact k I _ F H (Iota.le.refl I) o (Same.refl _) ((@rp_bl I K F _ _).mpr rfl)
  · have e : inL neg dx dy S = SM.lift (inQ2 neg dx dy) S := by
      cases dy <;> first | rfl | exact absurd ⟨_, rfl⟩ hx
    rw [e] at g0
    obtain ⟨d, e, k⟩ := G2.of_lift g0
    obtain ⟨b, e1, e2⟩ := R.of_bind e
    cases e2
    obtain ⟨W1, b1, st⟩ := id o
    exact @inB_ok I K neg W1 F0 F H σ ρ x y dx dy b Q b1 rx ry e1 (k I _ F H (Iota.le.refl I) o (Same.refl _) ((@rp_bl I K F _ _).mpr rfl))
theorem inS_ne {neg : Bool} : ∀ (x y : D) (S : Store) (e : Exc) (S' : Store), inS neg x y S ≠ .err e S' := fun x y S e S' => by
  unfold inS inL
  split
  · split <;> exact fun h => nomatch h
  · split
    · split
      · exact lift_ne
      · exact fun h => nomatch h
    · exact lift_ne
theorem dq2_inN {K : PySem.W.Frag} (neg : Bool) : DQ2 K (rIn2 K neg) (inS neg) := by
  refine ⟨fun I W F0 σ ρ S F H x y dx dy Q o rx ry g0 => ?_, inS_ne⟩
  by_cases hd : isDct dy S = true
  · exact .inr (in_dct o rx ry hd g0)
  · unfold inS at g0
    rw [if_neg hd] at g0
    exact .inl (in_seq o rx ry g0)
end DD

/-! SL24: x[i] = v of lists and dicts; d.get; list(d) -/
namespace DD
open PySem PySem.Spec PyProof.Rows L2

/-! ### x[i] = v -/
def rSetD : V → V → V → Hp → (Hp → Prop) → Prop := fun o i v H Q => ∃ a H4, o = .ref a ∧ DPut H a i v H4 ∧ Q H4
theorem set_dct {X : Cx} (hu : X.A.units + 1 < cLine) : PSet X rSetD := by
  intro pins s σ H o i v ov iv u Q I ro ri rv h
  obtain ⟨a, H4, rfl, g, q⟩ := h
  obtain rfl : ov = Value.ref a := ro
  exact d_setItem hu I g ri rv fun s4 I4 => ⟨H4, I4, q⟩
def rSet2 : V → V → V → Hp → (Hp → Prop) → Prop := fun o i v H Q => rSetL o i v H Q ∨ rSetD o i v H Q
theorem set_all {X : Cx} (hu : X.A.units + 1 < cLine) : PSet X rSet2 := by
  intro pins s σ H o i v ov iv u Q I ro ri rv h
  rcases h with h | h
  · exact set_list pins s σ H o i v ov iv u Q I ro ri rv h
  · exact set_dct hu pins s σ H o i v ov iv u Q I ro ri rv h
def putS2 (x j d : D) (k : Store → RO) : SO := fun S => match x with
  | .ref n => (match S[n]? with
    | some (.lst ds) => (match j with
      | .int i => (match ixN ds.length i with
        | some m => k (S.set n (.lst (ds.set m d)))
        | none => .bad)
      | _ => .bad)
    | some (.dK ks ds) => (match asKey j with
      | .ok q => if ds.length < 16777216 then k (S.set n (.dK (putKk ks q) (putAt ks ds q d))) else .bad
      | _ => .bad)
    | some (.dT ks ds) => (match keyT j with
      | .ok q => if ds.length < 16777216 then k (S.set n (.dT (putKk ks q) (putAt ks ds q d))) else .bad
      | _ => .bad)
    | _ => .bad)
  | _ => .bad
def yPut2 (o k f : En → SM D) : En → SO := fun ρ => sm (f ρ) ρ fun d => sm (o ρ) ρ fun x => sm (k ρ) ρ fun j => putS2 x j d (.nx ρ)
section
variable {X : Cx} {E : WX} {pos : Pos} {e o k : Expr} {te to tk : TE} {fe fo fk : En → SM D}
theorem ps2_put2 {ipos : Pos} (hu : X.A.units + 1 < cLine) (ho : PE2 X E o to fo) (hk : PE2 X E k tk fk) (he : PE2 X E e te fe)
    (ha : ∀ v, assign (.Subscript o k ipos) X.env v = (do
      let ov ← holding [v] (eval o X.env)
      let iv ← holding [v, ov] (eval k X.env)
      standAt ipos
      holding [v, ov, iv] (setItem ov iv v)
      release [v, ov, iv] []) := by intro _; rfl)
    (hs : swapsWithSole [.Subscript o k ipos] e pos.line X.env = pure false := by rfl) (hw : swappedStores [.Subscript o k ipos] e X.env = pure none := by rfl)
    (h1 : (assignEach [.Subscript o k ipos] X.env).map (·.2) = [assign (.Subscript o k ipos) X.env] := by rfl) :
    PS2 X E (.Assign [.Subscript o k ipos] e pos) (tAsg te (gSub to tk rSet2)) (yPut2 fo fk fe) := by
  refine ⟨ps_asg he.pe (pg_sub ho.pe hk.pe (set_all hu) ha) hs hw h1, fun I W F0 σ ρ S F H D oo q => ?_⟩
  refine he.de I W F0 σ ρ S F H _ oo ((sm_g q).imp (fun d S1 g1 J v F1 H1 l1 o1 s1 r1 => ?_) fun _ _ h => h)
  refine ho.de J W F0 σ ρ S1 F1 H1 _ o1 ((sm_g (Post2.mono l1 g1)).imp (fun x S2 g2 L w F2 H2 l2 o2 s2 r2 => ?_) fun _ _ h => h)
  refine hk.de L W F0 σ ρ S2 F2 H2 _ o2 ((sm_g (Post2.mono l2 g2)).imp (fun j S3 g3 M u F3 H3 l3 o3 s3 r3 => ?_) fun _ _ h => h)
  unfold putS2 at g3
  have rv : @Rp M X.K F3 v d := @Rp.mono M X.K F1 F3 (s2.trans s3) v d (Rp.ext (l2.trans l3) r1)
  split at g3
  · rename_i n
    obtain ⟨a, rfl, ha3⟩ := (@rp_ref M X.K F3 w n).mp (Rp.ext l3 (@Rp.mono L X.K F2 F3 s3 w _ r2))
    split at g3
    · rename_i ds hS
      split at g3
      · rename_i i
        cases hi : ixN ds.length i with
        | none => rw [hi] at g3; exact g3.elim
        | some m =>
          rw [hi] at g3
          obtain ⟨vs, hv, rl⟩ := o3.get hS ha3
          refine .inl ⟨a, vs, _, m, rfl, (@rp_int M X.K F3 u i).mp r3, hv, by rw [@Rps.length M X.K F3 vs ds rl]; exact hi, ?_⟩
          exact g3 M σ F3 _ l3 (o3.put hS ha3 fun V1 _ _ => ⟨_, upd_same, @Rps.set M X.K F3 vs ds v d m rl rv⟩)
      · exact g3.elim
    · rename_i ks ds hS
      cases hq : asKey j with
      | bad => rw [hq] at g3; exact g3.elim
      | err x => rw [hq] at g3; exact g3.elim
      | ok q =>
        rw [hq] at g3
        dsimp only at g3
        split at g3
        · rename_i hlen
          obtain ⟨vs, hv, ln, rl⟩ := o3.get hS ha3
          have eu := @asKey_ok M X.K F3 u j q r3 hq
          subst eu
          have hl := @Rps.length M X.K F3 vs ds rl
          refine .inr ⟨a, _, rfl, DPut.k hv (by rw [List.length_zip, ln, Nat.min_self, hl, line_eq]; exact hlen), ?_⟩
          refine g3 M σ F3 _ l3 (o3.put hS ha3 fun V1 _ _ => ⟨putAt ks vs q v, ?_, putKk_len ln, rps_putAt rv ln rl⟩)
          rw [upd_same, zip_putK ln]
        · exact g3.elim
    · rename_i ks ds hS
      cases hq : keyT j with
      | bad => rw [hq] at g3; exact g3.elim
      | err x => rw [hq] at g3; exact g3.elim
      | ok q =>
        rw [hq] at g3
        dsimp only at g3
        split at g3
        · rename_i hlen
          obtain ⟨vs, hv, ln, rl⟩ := o3.get hS ha3
          obtain ⟨b, rfl, hb⟩ := keyT_ok r3 hq
          have hl := @Rps.length M X.K F3 vs ds rl
          refine .inr ⟨a, _, rfl, DPut.t hv (o3.subF _ _ hb) (by rw [List.length_zip, ln, Nat.min_self, hl, line_eq]; exact hlen), ?_⟩
          refine g3 M σ F3 _ l3 (o3.put hS ha3 fun V1 _ _ => ⟨putAt ks vs q v, ?_, putKk_len ln, rps_putAt rv ln rl⟩)
          rw [upd_same, zip_putK ln]
        · exact g3.elim
    · exact g3.elim
  · exact g3.elim
end
/-! ### d.get(k), d.get(k, x) -/
def chkD (x : D) : SM Unit := fun S => if isDct x S = true then .ok () S else .bad
def getS (x k y : D) : SM D := fun S => match dgetS x k S with
  | .ok r => .ok (r.getD y) S
  | _ => .bad
theorem isD_of {K : PySem.W.Frag} {I : Iota} {W F0 F H : Hp} {σ : L2.St} {ρ : En} {S : Store} {x : V} {dx : D} (o : Ok2 I K S W F0 σ ρ F H) (rx : @Rp I K F x dx) (h : isDct dx S = true) : ∃ a, x = .ref a ∧ IsD H a := by
  unfold isDct at h
  split at h
  · rename_i n
    obtain ⟨a, rfl, ha⟩ := (@rp_ref I K F x n).mp rx
    split at h
    · rename_i hS
      obtain ⟨vs, e, _⟩ := o.get hS ha
      exact ⟨a, rfl, .inl ⟨_, .inl e⟩⟩
    · rename_i hS
      obtain ⟨vs, e, _⟩ := o.get hS ha
      exact ⟨a, rfl, .inr ⟨_, .inl e⟩⟩
    · cases h
  · obtain ⟨a, xs, rfl, ha, _⟩ := (@rp_dic I K F x _ _).mp rx
    exact ⟨a, rfl, .inl ⟨_, .inl (o.subF _ _ ha)⟩⟩
  · cases h
theorem chkD_at {x : D} {S : Store} {P : Unit → Store → Prop} {Y : Exc → Store → Prop} (g : G2 (chkD x S) P Y) : isDct x S = true ∧ P () S := by
  unfold chkD at g
  by_cases h : isDct x S = true
  · rw [if_pos h] at g; exact ⟨h, g⟩
  · rw [if_neg h] at g; exact g.elim
section
variable {X : Cx} {E : WX} {o e f : Expr} {td ty tx : TE} {fd fk fx : En → SM D} {apos cpos : Pos}
theorem pe2_get1 (hu : X.A.units + 1 < cLine) (ho : PE2 X E o td fd) (he : PE2 X E e ty fk) (m : M1 X o "get" apos e cpos := by exact ⟨rfl, rfl, rfl, rfl⟩) :
    PE2 X E (.Call (.Attribute o "get" apos) [e] [] cpos) (tDGet1 td ty) (fun ρ => fd ρ >>= fun d => chkD d >>= fun _ => fk ρ >>= fun k => getS d k .non) := by
  refine ⟨pe_dget1 hu ho.pe he.pe m, fun I W F0 σ ρ S F H Q oo g0 => ?_⟩
  refine ho.de I W F0 σ ρ S F H _ oo ((G2.of_bind g0).imp (fun x S1 g1 J v F1 H1 l1 o1 s1 r1 => ?_) fun _ _ h => h)
  obtain ⟨hd, g2⟩ := chkD_at (G2.of_bind g1)
  obtain ⟨a, rfl, isd⟩ := isD_of o1 r1 hd
  refine ⟨a, rfl, isd, ?_⟩
  refine he.de J W F0 σ ρ S1 F1 H1 _ o1 ((G2.of_bind g2).imp (fun k S2 g3 L w F2 H2 l2 o2 s2 r2 => ?_) fun _ _ h => h.mono l1 s1)
  unfold getS at g3
  cases hg : dgetS x k S2 with
  | bad => rw [hg] at g3; exact g3.elim
  | err z => rw [hg] at g3; exact g3.elim
  | ok r =>
    rw [hg] at g3
    obtain ⟨b, ov, eb, g, h1, h2⟩ := dget_ok o2 (@Rp.mono L X.K F1 F2 s2 _ _ (Rp.ext l2 r1)) r2 hg
    cases eb
    refine ⟨ov, g, g3 L _ F2 H2 (l1.trans l2) o2 (s1.trans s2) ?_⟩
    cases r with
    | none => rw [h2 rfl]; exact (@rp_non L X.K F2 _).mpr rfl
    | some d => obtain ⟨v, e, rv⟩ := h1 d rfl; rw [e]; exact rv
theorem pe2_get2 (hu : X.A.units + 1 < cLine) (ho : PE2 X E o td fd) (he : PE2 X E e ty fk) (hf : PE2 X E f tx fx) (m : M2 X o "get" apos e f cpos := by exact ⟨rfl, rfl, rfl, rfl⟩) :
    PE2 X E (.Call (.Attribute o "get" apos) [e, f] [] cpos) (tDGet2 td ty tx) (fun ρ => fd ρ >>= fun d => chkD d >>= fun _ => fk ρ >>= fun k => fx ρ >>= fun y => getS d k y) := by
  refine ⟨pe_dget2 hu ho.pe he.pe hf.pe m, fun I W F0 σ ρ S F H Q oo g0 => ?_⟩
  refine ho.de I W F0 σ ρ S F H _ oo ((G2.of_bind g0).imp (fun x S1 g1 J v F1 H1 l1 o1 s1 r1 => ?_) fun _ _ h => h)
  obtain ⟨hd, g2⟩ := chkD_at (G2.of_bind g1)
  obtain ⟨a, rfl, isd⟩ := isD_of o1 r1 hd
  refine ⟨a, rfl, isd, ?_⟩
  refine he.de J W F0 σ ρ S1 F1 H1 _ o1 ((G2.of_bind g2).imp (fun k S2 g3 L w F2 H2 l2 o2 s2 r2 => ?_) fun _ _ h => h.mono l1 s1)
  refine hf.de L W F0 σ ρ S2 F2 H2 _ o2 ((G2.of_bind g3).imp (fun y S3 g4 M z F3 H3 l3 o3 s3 r3 => ?_) fun _ _ h => h.mono (l1.trans l2) (s1.trans s2))
  unfold getS at g4
  cases hg : dgetS x k S3 with
  | bad => rw [hg] at g4; exact g4.elim
  | err z => rw [hg] at g4; exact g4.elim
  | ok r =>
    rw [hg] at g4
    obtain ⟨b, ov, eb, g, h1, h2⟩ := dget_ok o3 (@Rp.mono M X.K F1 F3 (s2.trans s3) _ _ (Rp.ext (l2.trans l3) r1)) (@Rp.mono M X.K F2 F3 s3 _ _ (Rp.ext l3 r2)) hg
    cases eb
    refine ⟨ov, g, g4 M _ F3 H3 ((l1.trans l2).trans l3) o3 ((s1.trans s2).trans s3) ?_⟩
    cases r with
    | none => rw [h2 rfl]; exact r3
    | some d => obtain ⟨v, e, rv⟩ := h1 d rfl; rw [e]; exact rv
end
/-! ### list(d) -/
def keyD : Key → D
  | .inl i => .int i
  | .inr z => .str z
theorem rp_keyD {I : Iota} {K : PySem.W.Frag} {F : Hp} (k : Key) : @Rp I K F (kV k) (keyD k) := by
  cases k with
  | inl i => exact (@rp_int I K F _ _).mpr rfl
  | inr z => exact (@rp_str I K F _ _).mpr rfl
theorem rps_keyD {I : Iota} {K : PySem.W.Frag} {F : Hp} : ∀ ks : List Key, @Rps I K F (ks.map kV) (ks.map keyD)
  | [] => @Rps.nil I K F
  | k :: ks => @Rps.cons I K F _ _ _ _ (rp_keyD k) (rps_keyD ks)
theorem Ok2.freezeT {I : Iota} {K : PySem.W.Frag} {S : Store} {W F0 F H : Hp} {σ : L2.St} {ρ : En} (o : Ok2 I K S W F0 σ ρ F H) {p : Addr} {xs : List V} (h : H p = some (.tup xs)) : ∃ F', Same F F' ∧ Ok2 I K S W F0 σ ρ F' H ∧ F' p = some (.tup xs) := by
  obtain ⟨W1, b1, st⟩ := o
  obtain ⟨F', s, b2, e⟩ := @Ok.freezeT I K W1 F F H σ ρ (@Ok.self I K W1 F0 F H σ ρ b1) p xs h
  exact ⟨F', s, Ok2.after b1 st b2 s, e⟩
/-- the key tuples are frozen -/
theorem keys_frozen {I : Iota} {K : PySem.W.Frag} {S : Store} {W F0 H : Hp} {σ : L2.St} {ρ : En} : ∀ {ks : List (List Key)} {bs : List Addr} {F : Hp}, Ok2 I K S W F0 σ ρ F H → Paired (fun k b => H b = some (.tup (k.map kV))) ks bs →
    ∃ F', Same F F' ∧ Ok2 I K S W F0 σ ρ F' H ∧ @Rps I K F' (bs.map V.ref) (ks.map fun k => D.tup (k.map keyD))
  | [], [], F, o, _ => ⟨F, Same.refl _, o, @Rps.nil I K F⟩
  | k :: ks, b :: bs, F, o, .cons h r => by
    obtain ⟨F1, s1, o1, e1⟩ := o.freezeT h
    obtain ⟨F2, s2, o2, r2⟩ := keys_frozen o1 r
    exact ⟨F2, s1.trans s2, o2, @Rps.cons I K F2 _ _ _ _ ((@rp_tup I K F2 _ _).mpr ⟨b, _, rfl, s2 _ _ e1, rps_keyD k⟩) r2⟩
end DD

/-! SL25: list comprehensions whose elements are read over the store -/
namespace DD
open PySem PySem.Spec PyProof.Rows L2

theorem Ok.shrink {I : Iota} {K : PySem.W.Frag} {W W' F0 F H : Hp} {σ : L2.St} {ρ : En} (o : @Ok I K W F0 σ ρ F H) (s : Same W' W) : @Ok I K W' F0 σ ρ F H := by
  have b := @Ok.toOkB I K W F0 σ ρ F H o
  refine @Ok.mk I K W' F0 σ ρ F H ⟨b.sub, s.trans b.wld, b.ext, fun a x nt e f => b.new a x nt (s _ _ e) f⟩ (@Ok.len I K W F0 σ ρ F H o) (fun i x sl h1 h2 => ?_) (@Ok.dist I K W F0 σ ρ F H o)
  have q := @Ok.slots I K W F0 σ ρ F H o i x sl h1 h2
  cases sl with
  | un => trivial
  | fz d => exact q
  | ow ds =>
    obtain ⟨p, vs, e, h, f, w, r⟩ := q
    exact ⟨p, vs, e, h, f, Same.free s w, r⟩
def outH (W : Hp) (D : Addr) : Hp := fun b => if b = D then none else W b
theorem outH_same {W : Hp} {D : Addr} : Same (outH W D) W := fun b x e => by
  unfold outH at e
  split at e
  · cases e
  · exact e
theorem outH_ne {W : Hp} {D b : Addr} (h : b ≠ D) : outH W D b = W b := if_neg h
/-- an object that is being made: nobody's, and not to be touched -/
structure Mk2 (I : Iota) (K : PySem.W.Frag) (S : Store) (W F0 : Hp) (σ : L2.St) (ρ : En) (D : Addr) (u : HO) (F H : Hp) : Prop where
  ok : Ok2 I K S (upd W D u) F0 σ ρ F H
  at_ : H D = some u
  wD : W D = none
  fD : F D = none
  ap : Apart σ ρ D
section
variable {I : Iota} {K : PySem.W.Frag} {S : Store} {W F0 F H : Hp} {σ : L2.St} {ρ : En} {D : Addr} {u : HO}
theorem Ok2.guard (o : Ok2 I K S W F0 σ ρ F H) (hn : H D = none) : Ok2 I K S (upd W D u) F0 σ ρ F (upd H D u) := by
  obtain ⟨W1, b1, st⟩ := o
  have b0 := @Ok.toOkB I K W1 F0 σ ρ F H b1
  have w1 : W1 D = none := Same.free b0.wld hn
  have w0 : W D = none := Same.free st.sub w1
  have fD : F D = none := Same.free b0.sub hn
  refine ⟨upd W1 D u, Ok.updW b1 fD (Ok.own_new b1 hn), st.len, st.nd, fun b x e => ?_, fun b x e w => ?_, fun n ob a h1 h2 => ?_⟩
  · by_cases hb : b = D
    · subst hb; rw [upd_same] at e ⊢; exact e
    · rw [upd_ne hb] at e ⊢; exact st.sub b x e
  · have hb : b ≠ D := fun z => by rw [z, upd_same] at w; cases w
    rw [upd_ne hb] at e w
    exact st.fr b x e w
  · obtain ⟨w, f, q⟩ := st.obj n ob a h1 h2
    obtain ⟨x, e, _⟩ := q.there
    have na : a ≠ D := fun z => by rw [z, w1] at e; cases e
    refine ⟨by rw [upd_ne na]; exact w, f, ?_⟩
    cases ob with
    | lst ds => obtain ⟨vs, e, r⟩ := q; exact ⟨vs, by rw [upd_ne na]; exact e, r⟩
    | dK ks ds => obtain ⟨vs, e, r⟩ := q; exact ⟨vs, by rw [upd_ne na]; exact e, r⟩
    | dT ks ds => obtain ⟨vs, e, r⟩ := q; exact ⟨vs, by rw [upd_ne na]; exact e, r⟩
    | ins C ns ds =>
      obtain ⟨dx, vs, e, e2, w2, r⟩ := q
      have nd : dx ≠ D := fun z => by rw [z, w1] at e2; cases e2
      exact ⟨dx, vs, by rw [upd_ne na]; exact e, by rw [upd_ne nd]; exact e2, by rw [upd_ne nd]; exact w2, r⟩
theorem Ok2.unguard (o : Ok2 I K S (upd W D u) F0 σ ρ F H) (wD : W D = none) : ∃ W1, @Ok I K W1 F0 σ ρ F H ∧ StOk I K S W F W1 ∧ W1 D = none := by
  obtain ⟨W1, b1, st⟩ := o
  refine ⟨outH W1 D, Ok.shrink b1 outH_same, ⟨st.len, st.nd, fun b x e => ?_, fun b x e w => ?_, fun n ob a h1 h2 => ?_⟩, if_pos rfl⟩
  · have hb : b ≠ D := fun z => by rw [z, wD] at e; cases e
    rw [outH_ne hb]
    exact st.sub b x (by rw [upd_ne hb]; exact e)
  · have hb : b ≠ D := fun z => by rw [z] at e; unfold outH at e; rw [if_pos rfl] at e; cases e
    rw [outH_ne hb] at e
    exact st.fr b x e (by rw [upd_ne hb]; exact w)
  · obtain ⟨w, f, q⟩ := st.obj n ob a h1 h2
    have na : a ≠ D := fun z => by rw [z, upd_same] at w; cases w
    rw [upd_ne na] at w
    refine ⟨w, f, ?_⟩
    cases ob with
    | lst ds => obtain ⟨vs, e, r⟩ := q; exact ⟨vs, by rw [outH_ne na]; exact e, r⟩
    | dK ks ds => obtain ⟨vs, e, r⟩ := q; exact ⟨vs, by rw [outH_ne na]; exact e, r⟩
    | dT ks ds => obtain ⟨vs, e, r⟩ := q; exact ⟨vs, by rw [outH_ne na]; exact e, r⟩
    | ins C ns ds =>
      obtain ⟨dx, vs, e, e2, w2, r⟩ := q
      have nd : dx ≠ D := fun z => by rw [z, upd_same] at w2; cases w2
      rw [upd_ne nd] at w2
      exact ⟨dx, vs, by rw [outH_ne na]; exact e, by rw [outH_ne nd]; exact e2, w2, r⟩
theorem Ok2.wldAt (o : Ok2 I K S (upd W D u) F0 σ ρ F H) : H D = some u := by
  obtain ⟨W1, b1, st⟩ := o
  exact (@Ok.toOkB I K W1 F0 σ ρ F H b1).wld _ _ (st.sub D u upd_same)
theorem Ok2.fAt (o : Ok2 I K S (upd W D u) F0 σ ρ F H) (f0 : F0 D = none) (nt : NT u) : F D = none := by
  obtain ⟨W1, b1, st⟩ := o
  exact (@Ok.toOkB I K W1 F0 σ ρ F H b1).new D _ nt (st.sub D _ upd_same) f0
/-- it is changed -/
theorem Mk2.chg (m : Mk2 I K S W F0 σ ρ D u F H) (u' : HO) : Mk2 I K S W F0 σ ρ D u' F (upd H D u') := by
  obtain ⟨W1, b1, st, w1⟩ := m.ok.unguard m.wD
  have o2 : Ok2 I K S (upd W D u') F0 σ ρ F (upd H D u') := by
    refine ⟨upd W1 D u', Ok.updW b1 m.fD (fun i p ds h1 h2 z => m.ap i ds h2 (by rw [h1, z])), st.len, st.nd, fun b x e => ?_, fun b x e w => ?_, fun n ob a h1 h2 => ?_⟩
    · by_cases hb : b = D
      · subst hb; rw [upd_same] at e ⊢; exact e
      · rw [upd_ne hb] at e ⊢; exact st.sub b x e
    · have hb : b ≠ D := fun z => by rw [z, upd_same] at w; cases w
      rw [upd_ne hb] at e w
      exact st.fr b x e w
    · obtain ⟨w, f, q⟩ := st.obj n ob a h1 h2
      obtain ⟨x, e, _⟩ := q.there
      have na : a ≠ D := fun z => by rw [z, w1] at e; cases e
      refine ⟨by rw [upd_ne na]; exact w, f, ?_⟩
      cases ob with
      | lst ds => obtain ⟨vs, e, r⟩ := q; exact ⟨vs, by rw [upd_ne na]; exact e, r⟩
      | dK ks ds => obtain ⟨vs, e, r⟩ := q; exact ⟨vs, by rw [upd_ne na]; exact e, r⟩
      | dT ks ds => obtain ⟨vs, e, r⟩ := q; exact ⟨vs, by rw [upd_ne na]; exact e, r⟩
      | ins C ns ds =>
        obtain ⟨dx, vs, e, e2, w2, r⟩ := q
        have nd : dx ≠ D := fun z => by rw [z, w1] at e2; cases e2
        exact ⟨dx, vs, by rw [upd_ne na]; exact e, by rw [upd_ne nd]; exact e2, by rw [upd_ne nd]; exact w2, r⟩
  exact ⟨o2, upd_same, m.wD, m.fD, m.ap⟩
/-- .. and is done -/
theorem Mk2.done (m : Mk2 I K S W F0 σ ρ D u F H) : Ok2 I K S W F0 σ ρ (upd F D u) H ∧ Same F (upd F D u) := by
  obtain ⟨W1, b1, st, w1⟩ := m.ok.unguard m.wD
  have s : Same F (upd F D u) := same_upd m.fD
  exact ⟨Ok2.after b1 st (@Ok.freezeAt I K W1 F F H σ ρ (@Ok.self I K W1 F0 F H σ ρ b1) D u m.at_ m.fD w1 m.ap) s, s⟩
/-- .. and becomes an object of the store -/
theorem Mk2.store (m : Mk2 I K S W F0 σ ρ D u F H) {ob : Ob} (hob : ∀ V1 : Hp, V1 D = some u → @ObOk I K W F V1 D ob) : Ok2 (I.push D) K (S ++ [ob]) W F0 σ ρ F H := by
  obtain ⟨W1, b1, st, w1⟩ := m.ok.unguard m.wD
  have eu : upd H D u = H := by
    funext b
    by_cases hb : b = D
    · rw [hb, upd_same, m.at_]
    · rw [upd_ne hb]
  have b2 := Ok.updW (u := u) b1 m.fD (fun i p ds h1 h2 z => m.ap i ds h2 (by rw [h1, z]))
  rw [eu] at b2
  have hob' := hob (upd W1 D u) upd_same
  refine ⟨upd W1 D u, Ok.up (Iota.le_push I D) b2, ?_, ?_, ?_, fun b x e w => ?_, fun n ob' a h1 h2 => ?_⟩
  · show (I.at_ ++ [D]).length = (S ++ [ob]).length
    rw [List.length_append, List.length_append, st.len]; rfl
  · show (I.at_ ++ [D]).Nodup
    rw [List.nodup_append]
    refine ⟨st.nd, by simp, fun a ha b hb => ?_⟩
    rw [List.mem_singleton.mp hb]
    intro z
    subst z
    obtain ⟨x, e⟩ := st.mem_some ha
    rw [w1] at e; cases e
  · exact st.sub.trans (same_upd w1)
  · by_cases hb : b = D
    · subst hb; exact ⟨hob'.nt e, m.fD⟩
    · rw [upd_ne hb] at e; exact st.fr b x e w
  · have h2' : (I.at_ ++ [D])[n]? = some a := h2
    by_cases hn : n < S.length
    · rw [List.getElem?_append_left hn] at h1
      rw [List.getElem?_append_left (by rw [st.len]; exact hn)] at h2'
      obtain ⟨w, f, q⟩ := st.obj n ob' a h1 h2'
      exact ⟨w, f, (ObOk.new q w1).ext (Iota.le_push I D)⟩
    · rw [List.getElem?_append_right (by omega)] at h1
      rw [List.getElem?_append_right (by rw [st.len]; omega), st.len] at h2'
      have hn0 : n - S.length = 0 := by
        have := (List.getElem?_eq_some_iff.mp h1).1
        simp at this; omega
      rw [hn0] at h1 h2'
      cases h1; cases h2'
      exact ⟨m.wD, m.fD, hob'.ext (Iota.le_push I D)⟩
theorem Ok2.wipe (o : Ok2 I K S W F0 σ ρ F H) (vs : List Nat) : Ok2 I K S W F0 (L2.wipe σ vs) (wipeE ρ vs) F H := by
  obtain ⟨W1, b1, st⟩ := o
  exact ⟨W1, @Ok.wipe I K W1 F0 F H σ ρ b1 vs, st⟩
end
/-- no exception leaves -/
def noX {α : Type} (m : SM α) : SM α := fun S => match m S with
  | .err _ _ => .bad
  | o => o
theorem noX_of {α : Type} {m : SM α} {S : Store} {P : α → Store → Prop} {X : Exc → Store → Prop} (h : G2 (noX m S) P X) : G2 (m S) P (fun _ _ => False) := by
  unfold noX at h
  cases e : m S with
  | ok a S' => rw [e] at h; exact h
  | err x S' => rw [e] at h; exact h.elim
  | bad => rw [e] at h; exact h.elim
/-- a reading in the store of the elements -/
def compS (tg : D → En → R En) (test : En → R Bool) (elt : En → SM D) (ρ : En) : List D → SM (List D)
  | [] => SM.ret []
  | d :: ds => SM.lift (tg d ρ) >>= fun ρ1 => SM.lift (test ρ1) >>= fun b => if b = true then noX (elt ρ1) >>= fun x => compS tg test elt ρ ds >>= fun xs => SM.ret (x :: xs) else compS tg test elt ρ ds
def eComp2 (src : En → SM (List D)) (vs : List Nat) (tg : D → En → R En) (test : En → R Bool) (elt : En → SM D) : En → SM D := fun ρ =>
  src ρ >>= fun ds => SM.lift (guardR (noOwn ρ vs && decide (ds.length < 16777216))) >>= fun _ => compS tg test elt (wipeE ρ vs) ds >>= fun xs => SM.ret (.lst xs)
theorem lift_bind {α β : Type} {r : R α} {f : α → SM β} {S : Store} {P : β → Store → Prop} {X : Exc → Store → Prop} (h : G2 ((SM.lift r >>= f) S) P X) : ∃ a, r = .ok a ∧ G2 (f a S) P X := G2.of_lift (G2.of_bind h)
theorem compS_ne {tg : D → En → R En} {test : En → R Bool} {elt : En → SM D} {ρ : En} : ∀ (ds : List D) (S : Store) (e : Exc) (S' : Store), compS tg test elt ρ ds S ≠ .err e S'
  | [], S, e, S' => fun h => nomatch h
  | d :: ds, S, e, S' => fun h => by
    have h' : ((SM.lift (tg d ρ) >>= fun ρ1 => SM.lift (test ρ1) >>= fun b => if b = true then noX (elt ρ1) >>= fun x => compS tg test elt ρ ds >>= fun xs => SM.ret (x :: xs) else compS tg test elt ρ ds) S) = .err e S' := h
    have bind_err : ∀ {α β : Type} {m : SM α} {f : α → SM β} {S : Store}, (m >>= f) S = .err e S' → m S = .err e S' ∨ ∃ a S1, m S = .ok a S1 ∧ f a S1 = .err e S' := fun {α β m f S} h => by
      have eq : (m >>= f) S = (match m S with | .ok a S' => f a S' | .err x S' => .err x S' | .bad => .bad) := rfl
      rw [eq] at h
      cases hm : m S with
      | ok a S1 => rw [hm] at h; exact .inr ⟨a, S1, rfl, h⟩
      | err x S1 => rw [hm] at h; cases h; exact .inl rfl
      | bad => rw [hm] at h; cases h
    rcases bind_err h' with h1 | ⟨ρ1, S1, _, h1⟩
    · exact lift_ne h1
    rcases bind_err h1 with h2 | ⟨b, S2, _, h2⟩
    · exact lift_ne h2
    cases b with
    | false => exact compS_ne ds S2 e S' h2
    | true =>
      rw [if_pos rfl] at h2
      rcases bind_err h2 with h3 | ⟨x, S3, _, h3⟩
      · unfold noX at h3
        cases hm : elt ρ1 S2 with
        | ok a S1 => rw [hm] at h3; cases h3
        | err x S1 => rw [hm] at h3; cases h3
        | bad => rw [hm] at h3; cases h3
      · rcases bind_err h3 with h4 | ⟨y, S4, _, h4⟩
        · exact compS_ne ds S3 e S' h4
        · cases h4
theorem Ok2.unwipe {I J : Iota} {K : PySem.W.Frag} {S S' : Store} {W F0 F H F' H' : Hp} {σ : L2.St} {ρ : En} (l : Iota.le I J) (o : Ok2 I K S W F0 σ ρ F H) {vs : List Nat} (n : noOwn ρ vs = true) (o' : Ok2 J K S' W F0 (L2.wipe σ vs) (wipeE ρ vs) F' H') (s : Same F F') : Ok2 J K S' W F0 σ ρ F' H' := by
  obtain ⟨W1, b1, st⟩ := o
  obtain ⟨W2, b2, st2⟩ := o'
  refine ⟨W2, @Ok.mk J K W2 F0 σ ρ F' H' (@Ok.toOkB J K W2 F0 _ _ F' H' b2) (@Ok.len I K W1 F0 σ ρ F H b1) (fun i x sl h1 h2 => ?_) (@Ok.dist I K W1 F0 σ ρ F H b1), st2⟩
  by_cases hi : i ∈ vs
  · have q := @Ok.slots I K W1 F0 σ ρ F H b1 i x sl h1 h2
    have n' := List.all_eq_true.mp n i hi
    rw [h2] at n'
    cases sl with
    | un => trivial
    | fz d =>
      obtain ⟨v, e, r⟩ := q
      exact ⟨v, e, @Rp.mono J K F F' s v d (Rp.ext l r)⟩
    | ow ds => cases n'
  · exact @Ok.slots J K W2 F0 _ _ F' H' b2 i x sl (by rw [wipe_get hi]; exact h1) (by rw [wipeE_get hi]; exact h2)
theorem de2_lc {K : PySem.W.Frag} {E : WX} {wi : TI} {src : En → SM (List D)} {g : TG} {ix : List Nat} {tgf : D → En → R En} {tt : TT} {test : En → R Bool} {te : TE} {elt : En → SM D} {vs : List Nat}
    (hi : DI2 K E wi src) (hg : ∀ I : Iota, @DG I K g ix tgf) (ht : ∀ I : Iota, @DT I K tt test) (he : DE2 K EF te elt) (hix : ∀ i ∈ ix, i ∈ vs) : DE2 K E (tLc wi g tt te vs) (eComp2 src vs tgf test elt) := fun I W F0 σ ρ S F H Q o g0 => by
  refine hi I W F0 σ ρ S F H _ o ((G2.of_bind g0).imp (fun xs S1 g1 I1 J F1 H1 l1 o1 s1 wk => ?_) fun _ _ h => h)
  have g1' := G2.of_bind g1
  obtain ⟨u, gd, g2⟩ := G2.of_lift g1'
  have gd' := of_guard gd
  rw [Bool.and_eq_true] at gd'
  have hlen : xs.length < 16777216 := of_decide_eq_true gd'.2
  intro D hD
  have o1w := (o1.self).wipe vs
  have apD : Apart σ ρ D := by obtain ⟨V, b, _⟩ := id o1; exact @Ok.apart I1 K V F0 F1 H1 σ ρ b D hD
  have lenO : σ.length = ρ.length := by obtain ⟨V, b, _⟩ := id o1; exact @Ok.len I1 K V F0 σ ρ F1 H1 b
  have apDw : Apart (wipe σ vs) (wipeE ρ vs) D := apD.wipe lenO vs
  have fD1 : F1 D = none := Same.free o1.subF hD
  have wD1 : W D = none := by obtain ⟨V, b, st⟩ := id o1; exact Same.free st.sub (Same.free (@Ok.toOkB I1 K V F0 σ ρ F1 H1 b).wld hD)
  -- what is still to be made
  let Pv : Nat → Hp → Prop := fun i H' => ∃ (L : Iota) (S' : Store) (F' : Hp) (acc : List V) (ds1 : List DD.D), Iota.le I1 L ∧ Same F1 F' ∧ Mk2 L K S' W F1 (wipe σ vs) (wipeE ρ vs) D (.lst acc) F' H' ∧ acc.length ≤ i ∧ @Rps L K F' acc ds1 ∧
    G2 (compS tgf test elt (wipeE ρ vs) (xs.drop i) S') (fun ds2 S2 => ∀ (L2 : Iota) v F2 H2, Iota.le I1 L2 → Ok2 L2 K S2 W F1 (wipe σ vs) (wipeE ρ vs) F2 H2 → Same F1 F2 → @Rp L2 K F2 v (.lst (ds1 ++ ds2)) → Q v H2) (fun _ _ => False)
  refine ⟨fun i m H' => m = xs.length - i ∧ i ≤ xs.length ∧ Pv i H', ⟨xs.length, rfl, Nat.zero_le _, I1, S1, F1, [], [], Iota.le.refl _, Same.refl _, ⟨o1w.guard hD, upd_same, wD1, fD1, apDw⟩, Nat.le_refl _, @Rps.nil I1 K F1, ?_⟩, ?_⟩
  · rw [List.drop_zero]
    have g3 := G2.of_bind (m := compS tgf test elt (wipeE ρ vs) xs) (f := fun xs => SM.ret (DD.D.lst xs)) g2
    refine (g3.noX (Y := fun _ _ => False) fun e S' => compS_ne xs S1 e S').imp (fun ds2 S2 k L2 v F2 H2 l2 o2 s2 r2 => ?_) fun _ _ h => h
    exact k L2 v F2 H2 (l1.trans l2) ((o1.unwipe l2 gd'.1 (o2.rebase (o1.wipe vs)) s2)) (s1.trans s2) r2
  · rintro i m H' ⟨rfl, hil, L, S', F', acc, ds1, lL, sF, mk, hacc, rA, g3⟩
    have wk' := (Walks.ext lL wk) F' H' sF mk.ok.subF i
    by_cases hlt : i < xs.length
    · have hx : xs[i]? = some xs[i] := List.getElem?_eq_getElem hlt
      rw [take_succ hx] at g3
      obtain ⟨ρ1, e4, g4⟩ := lift_bind g3
      obtain ⟨b, e6, g5⟩ := lift_bind g4
      obtain ⟨hgo, hy⟩ := wk'.2 _ hx
      refine .inr ⟨hgo, fun H2 => i + 1 ≤ xs.length ∧ Pv (i + 1) H2, fun H2 n => ⟨xs.length - (i + 1), by omega, rfl, n.1, n.2⟩, fun x H3 yl => ?_⟩
      -- the item
      have item : ∃ F3, Mk2 L K S' W F1 (wipe σ vs) (wipeE ρ vs) D (.lst acc) F3 H3 ∧ Same F' F3 ∧ @Rp L K F3 x xs[i] := by
        rcases hy x H3 yl with ⟨e8, r8⟩ | ⟨p, u', hp, e8, r8⟩
        · subst e8; exact ⟨F', mk, Same.refl _, r8⟩
        · subst e8
          have np : D ≠ p := ne_of_none mk.at_ hp
          obtain ⟨o5, s5⟩ := mk.ok.frozen u' hp
          exact ⟨_, ⟨o5, by rw [upd_ne np]; exact mk.at_, mk.wD, by rw [upd_ne np]; exact mk.fD, mk.ap⟩, s5, r8⟩
      obtain ⟨F3, m3, s3, r3⟩ := item
      obtain ⟨V, b3, st3⟩ := id m3.ok
      refine hg L V F3 (wipe σ vs) (wipeE ρ vs) ρ1 F3 H3 x xs[i] _ (@Ok.self L K V F1 F3 H3 _ _ b3) r3 e4 fun σ1 b4 l4 k4 => ?_
      have ls : σ1.length = σ.length := l4.trans (wipe_length σ vs)
      have wS : wipe σ1 vs = wipe σ vs := wipe_same ls fun j hj => (k4 j fun z => hj (hix j z)).1
      have wE : wipeE ρ1 vs = wipeE ρ vs := wipeE_same (by rw [← @Ok.len L K V F3 σ1 ρ1 F3 H3 b4, ls, lenO]) fun j hj => (k4 j fun z => hj (hix j z)).2
      refine ⟨wS, ?_⟩
      have b4' := @Ok.rebase L K V F1 F3 H3 σ1 ρ1 F3 H3 b4 (@Ok.toOkB L K V F1 _ _ F3 H3 b3)
      refine ht L V F3 σ1 ρ1 F3 H3 b _ b4 e6 fun F5 H5 o5 s5 => ?_
      have o5' := Ok2.after b4' st3 o5 s5
      cases b with
      | true =>
        rw [if_pos rfl] at g5
        refine iteT (he L _ F1 σ1 ρ1 S' F5 H5 _ o5' ((noX_of (G2.of_bind g5)).imp (fun y S2 g6 M v F6 H6 l6 o6 s6 r6 => ?_) fun _ _ h => h.elim))
        have o7 := o6.wipe vs
        rw [wS, wE] at o7
        have m7 : Mk2 M K S2 W F1 (wipe σ vs) (wipeE ρ vs) D (.lst acc) F6 H6 := ⟨o7, o6.wldAt, wD1, o6.fAt fD1 NT.lst, apDw⟩
        have s36 : Same F3 F6 := s5.trans s6
        have rA6 : @Rps M K F6 acc ds1 := @Rps.mono M K F3 F6 s36 acc ds1 (Rps.ext l6 (@Rps.mono L K F' F3 s3 acc ds1 rA))
        refine ⟨acc, o6.wldAt, by rw [line_eq]; omega, by omega, M, S2, F6, acc ++ [v], ds1 ++ [y], lL.trans l6, (sF.trans s3).trans s36, m7.chg _, by simp; omega, @Rps.append M K F6 _ _ _ _ rA6 (@Rps.one M K F6 _ _ r6), ?_⟩
        refine (G2.of_bind g6).imp (fun ds2 S3 k => ?_) fun _ _ h => h
        intro L2 v2 F7 H7 l7 o8 s8 r8
        exact k L2 v2 F7 H7 l7 o8 s8 (by rw [List.append_assoc] at r8; exact r8)
      | false =>
        rw [if_neg Bool.false_ne_true] at g5
        have o7 := o5'.wipe vs
        rw [wS, wE] at o7
        refine iteF ⟨by omega, L, S', F5, acc, ds1, lL, (sF.trans s3).trans s5, ⟨o7, o5'.wldAt, wD1, o5'.fAt fD1 NT.lst, apDw⟩, by omega, @Rps.mono L K F' F5 (s3.trans s5) acc ds1 rA, g5⟩
    · have ei : i = xs.length := by omega
      subst ei
      rw [List.drop_length] at g3
      refine .inl ⟨wk'.1 rfl, ?_⟩
      obtain ⟨o6, s6⟩ := mk.done
      have g6 : ∀ (L2 : Iota) v F2 H2, Iota.le I1 L2 → Ok2 L2 K S' W F1 (wipe σ vs) (wipeE ρ vs) F2 H2 → Same F1 F2 → @Rp L2 K F2 v (.lst (ds1 ++ [])) → Q v H2 := g3
      exact g6 L _ _ _ lL o6 (sF.trans s6) ((@rp_lst L K _ _ _).mpr ⟨D, acc, rfl, upd_same, by rw [List.append_nil]; exact @Rps.mono L K F' _ s6 acc ds1 rA⟩)
/-- [e for x in xs if t], a frozen list -/
theorem pe2_lc {X : Cx} {E : WX} {elt tg iter : Expr} {ifs : List Expr} {scope : Scope} {own : List (Str × Nat)} {pos : Pos} {wi : TI} {g : Shared → Hp → Addr → List (Str × Addr) → List Addr → TG} {ix : List Nat} {tt : Shared → Hp → Addr → List (Str × Addr) → List Addr → TT} {te : Shared → Hp → Addr → List (Str × Addr) → List Addr → TE} {src : En → SM (List D)} {tgf : D → En → R En} {test : En → R Bool} {ef : En → SM D}
    (hc : X.calm = true) (hN : X.N.Nodup) (hi : PI2 X E tg iter wi src) (ok : BlkOk X.N X.env.scope scope own)
    (hg : ∀ (I : Iota) (s : Shared) (H : Hp) (C : Addr) (cl : List (Str × Addr)) (fp : List Addr), @PGD I (X.blk s H scope (compEnvC scope cl C X.env) fp) tg (g s H C cl fp) ix tgf) (ht : ∀ (I : Iota) (s : Shared) (H : Hp) (C : Addr) (cl : List (Str × Addr)) (fp : List Addr), @PTsD I (X.blk s H scope (compEnvC scope cl C X.env) fp) ifs (tt s H C cl fp) test)
    (he : ∀ (s : Shared) (H : Hp) (C : Addr) (cl : List (Str × Addr)) (fp : List Addr), PE2 (X.blk s H scope (compEnvC scope cl C X.env) fp) EF elt (te s H C cl fp) ef) (hix : ∀ i ∈ ix, i ∈ own.map (·.2) := by decide) (hge : ∀ s H C cl fp, g s H C cl fp = g X.s_0 X.H_0 0 [] [] := by intros; rfl) (hte : ∀ s H C cl fp, tt s H C cl fp = tt X.s_0 X.H_0 0 [] [] := by intros; rfl) (hee : ∀ s H C cl fp, te s H C cl fp = te X.s_0 X.H_0 0 [] [] := by intros; rfl) (hs : ∀ x, foldedSetIterable iter X.env x = pure x := by intro _; rfl) :
    PE2 X E (.ListComp elt [⟨tg, iter, ifs, 0⟩] scope pos) (tLc wi (g X.s_0 X.H_0 0 [] []) (tt X.s_0 X.H_0 0 [] []) (te X.s_0 X.H_0 0 [] []) (own.map (·.2))) (eComp2 src (own.map (·.2)) tgf test ef) :=
  ⟨pe_lc hc hN hi.pe ok (fun s H C cl fp => hge s H C cl fp ▸ @PGD.pe ⟨[]⟩ _ _ _ _ _ (hg ⟨[]⟩ s H C cl fp)) (fun s H C cl fp => hte s H C cl fp ▸ @PTsD.pe ⟨[]⟩ _ _ _ _ (ht ⟨[]⟩ s H C cl fp)) (fun s H C cl fp => hee s H C cl fp ▸ (he s H C cl fp).pe) hs,
    de2_lc hi.de (fun I => @PGD.de I (X.blk X.s_0 X.H_0 scope (compEnvC scope [] 0 X.env) []) _ _ _ _ (hg I X.s_0 X.H_0 0 [] [])) (fun I => @PTsD.de I (X.blk X.s_0 X.H_0 scope (compEnvC scope [] 0 X.env) []) _ _ _ (ht I X.s_0 X.H_0 0 [] [])) (he X.s_0 X.H_0 0 [] []).de hix⟩
end DD

/-! SL26: list(d), d a dict of the store; {k: v for x in xs} into the store -/
namespace DD
open PySem PySem.Spec PyProof.Rows L2

/-! ### list(d) -/
def rLstD (xs : List V) (H : Hp) (Q : VK) : Prop := rListD xs H Q ∨ ∃ d kvs, xs = [V.ref d] ∧ Rd H d (.dT kvs) ∧ ∀ p bs, H p = none → IsKeys H kvs bs → Q (.ref p) (upd H p (.lst (bs.map V.ref)))
theorem call_lstD {X : Cx} (hc : X.calm = true) : CallR X (.type "list") rLstD := by
  intro pins s σ H xs us Q I r h
  rcases h with h | h
  · exact call_list_dK hc pins s σ H xs us Q I r h
  · exact call_list_dT hc pins s σ H xs us Q I r h
def keysS (x : D) : SM D := fun S => match x with
  | .ref n => (match S[n]? with
    | some (.dK ks _) => .ok (.lst (ks.map keyD)) S
    | some (.dT ks _) => .ok (.lst (ks.map fun k => .tup (k.map keyD))) S
    | _ => .bad)
  | _ => .bad
theorem zip_keys {κ : Type} : ∀ {ks : List κ} {vs : List V}, ks.length = vs.length → (ks.zip vs).map (·.1) = ks
  | [], [], _ => rfl
  | [], _ :: _, h => by simp at h
  | _ :: _, [], h => by simp at h
  | k :: ks, v :: vs, h => by rw [List.zip_cons_cons, List.map_cons, zip_keys (by simpa using h)]
theorem isKeys_ks {H : Hp} : ∀ {ks : List (List Key)} {vs : List V} {bs : List Addr}, ks.length = vs.length → IsKeys H (ks.zip vs) bs → Paired (fun k b => H b = some (.tup (k.map kV))) ks bs
  | [], [], bs, _, h => by
    cases bs with
    | nil => exact .nil
    | cons b bs => exact absurd (Paired.length h) (by simp)
  | [], _ :: _, _, h, _ => by simp at h
  | _ :: _, [], _, h, _ => by simp at h
  | k :: ks, v :: vs, bs, h, p => by
    rw [List.zip_cons_cons] at p
    cases p with
    | cons a r => exact .cons a (isKeys_ks (by simpa using h) r)
section
variable {X : Cx} {E : WX} {e : Expr} {te : TE} {fe : En → SM D} {x : Str} {p pos : Pos}
theorem pe2_listD (hc : X.calm = true) (hm : X.mg "list" = none) (he : PE2 X E e te fe) (hg : Gl X "list" := by rfl)
    (hst : starEach [e] X.env = (false, eval e X.env) :: starEach [] X.env := by rfl) (hpl : (backTo pos (starEach [] X.env)).any (·.1) = false := by rfl) :
    PE2 X E (.Call (.Name "list" p) [e] [] pos) (tCB rLstD (tCons te tNil)) (fun ρ => fe ρ >>= keysS) := by
  refine ⟨pe_callTy (call_lstD hc) hg hm PyProof.Rows.boot_list (pa_cons he.pe pa_nil hst) (by decide) (by decide) hst hpl, fun I W F0 σ ρ S F H Q o g0 => ?_⟩
  refine he.de I W F0 σ ρ S F H _ o ((G2.of_bind g0).imp (fun x S1 g1 J v F1 H1 l1 o1 s1 r1 => ?_) fun _ _ h => h)
  unfold keysS at g1
  split at g1
  · rename_i n
    obtain ⟨a, rfl, ha⟩ := (@rp_ref J X.K F1 v n).mp r1
    split at g1
    · rename_i ks ds hS
      obtain ⟨vs, hv, ln, rv⟩ := o1.get hS ha
      refine .inl ⟨a, _, rfl, hv, fun q hq => ?_⟩
      obtain ⟨o2, s2⟩ := o1.frozen (.lst ((ks.zip vs).map fun kv => kV kv.1)) hq
      refine g1 J _ _ _ l1 o2 (s1.trans s2) ((@rp_lst J X.K _ _ _).mpr ⟨q, _, rfl, upd_same, ?_⟩)
      have e1 : ((ks.zip vs).map fun kv => kV kv.1) = ks.map kV := by
        have e2 : ((ks.zip vs).map fun kv => kV kv.1) = ((ks.zip vs).map (·.1)).map kV := by rw [List.map_map]; rfl
        rw [e2, zip_keys ln]
      rw [e1]
      exact rps_keyD ks
    · rename_i ks ds hS
      obtain ⟨vs, hv, ln, rv⟩ := o1.get hS ha
      refine .inr ⟨a, _, rfl, .inl hv, fun q bs hq hk => ?_⟩
      obtain ⟨F2, s2, o2, r2⟩ := keys_frozen o1 (isKeys_ks ln hk)
      obtain ⟨o3, s3⟩ := o2.frozen (.lst (bs.map V.ref)) hq
      exact g1 J _ _ _ l1 o3 ((s1.trans s2).trans s3) ((@rp_lst J X.K _ _ _).mpr ⟨q, _, rfl, upd_same, @Rps.mono J X.K F2 _ s3 _ _ r2⟩)
    · exact g1.elim
  · exact g1.elim
end

/-! ### {k: v for x in xs if t} -/
/-- the dict that is made, of either kind -/
def dob (tk : Bool) (kk : List Key) (kt : List (List Key)) (ds : List D) : Ob := if tk then .dT kt ds else .dK kk ds
inductive DAcc where
  | k (ks : List Key) (ds : List D) | t (ks : List (List Key)) (ds : List D)
def DAcc.ob : DAcc → Ob
  | .k ks ds => .dK ks ds
  | .t ks ds => .dT ks ds
def DAcc.len : DAcc → Nat
  | .k _ ds => ds.length
  | .t _ ds => ds.length
def DAcc.put (k d : D) : DAcc → R DAcc
  | .k ks ds => asKey k >>= fun q => .ok (.k (putKk ks q) (putAt ks ds q d))
  | .t ks ds => keyT k >>= fun q => .ok (.t (putKk ks q) (putAt ks ds q d))
/-- the object that stands for it -/
def DAt (I : Iota) (K : PySem.W.Frag) (F : Hp) (u : HO) : DAcc → Prop
  | .k ks ds => ∃ vs, u = .dK (ks.zip vs) ∧ ks.length = vs.length ∧ @Rps I K F vs ds
  | .t ks ds => ∃ vs, u = .dT (ks.zip vs) ∧ ks.length = vs.length ∧ @Rps I K F vs ds
theorem DAt.mono {I J : Iota} {K : PySem.W.Frag} {F F' : Hp} {u : HO} {a : DAcc} (l : Iota.le I J) (s : Same F F') (h : DAt I K F u a) : DAt J K F' u a := by
  cases a with
  | k ks ds => obtain ⟨vs, e, n, r⟩ := h; exact ⟨vs, e, n, @Rps.mono J K F F' s vs ds (Rps.ext l r)⟩
  | t ks ds => obtain ⟨vs, e, n, r⟩ := h; exact ⟨vs, e, n, @Rps.mono J K F F' s vs ds (Rps.ext l r)⟩
theorem DAt.nt {I : Iota} {K : PySem.W.Frag} {F : Hp} {u : HO} {a : DAcc} (h : DAt I K F u a) : NT u := by
  cases a with
  | k ks ds => obtain ⟨vs, e, _⟩ := h; subst e; exact fun _ z => nomatch z
  | t ks ds => obtain ⟨vs, e, _⟩ := h; subst e; exact fun _ z => nomatch z
theorem DAt.obOk {I : Iota} {K : PySem.W.Frag} {W F V1 : Hp} {D : Addr} {u : HO} {a : DAcc} (h : DAt I K F u a) (e : V1 D = some u) : @ObOk I K W F V1 D a.ob := by
  cases a with
  | k ks ds => obtain ⟨vs, rfl, n, r⟩ := h; exact ⟨vs, e, n, r⟩
  | t ks ds => obtain ⟨vs, rfl, n, r⟩ := h; exact ⟨vs, e, n, r⟩
theorem DAt.put {I : Iota} {K : PySem.W.Frag} {F H : Hp} {D : Addr} {u : HO} {a a' : DAcc} {y z : V} {k d : DD.D} (h : DAt I K F u a) (hD : H D = some u) (sF : Same F H) (ry : @Rp I K F y k) (rz : @Rp I K F z d) (e : a.put k d = .ok a') (hl : a.len < 16777216) :
    ∃ u', DPut H D y z (upd H D u') ∧ DAt I K F u' a' := by
  cases a with
  | k ks ds =>
    obtain ⟨vs, rfl, ln, r⟩ := h
    obtain ⟨q, e1, e2⟩ := R.of_bind e
    cases e2
    have ek := @asKey_ok I K F y k q ry e1
    subst ek
    have l2 := @Rps.length I K F vs ds r
    refine ⟨_, DPut.k hD (by rw [List.length_zip, ln, Nat.min_self, l2, line_eq]; exact hl), putAt ks vs q z, by rw [zip_putK ln], putKk_len ln, rps_putAt rz ln r⟩
  | t ks ds =>
    obtain ⟨vs, rfl, ln, r⟩ := h
    obtain ⟨q, e1, e2⟩ := R.of_bind e
    cases e2
    obtain ⟨b, rfl, hb⟩ := keyT_ok ry e1
    have l2 := @Rps.length I K F vs ds r
    refine ⟨_, DPut.t hD (sF _ _ hb) (by rw [List.length_zip, ln, Nat.min_self, l2, line_eq]; exact hl), putAt ks vs q z, by rw [zip_putK ln], putKk_len ln, rps_putAt rz ln r⟩
def compDS (tg : D → En → R En) (test : En → R Bool) (kf vf : En → SM D) (ρ : En) : List D → DAcc → SM DAcc
  | [], a => SM.ret a
  | d :: ds, a => SM.lift (tg d ρ) >>= fun ρ1 => SM.lift (test ρ1) >>= fun b => if b = true then noX (kf ρ1) >>= fun k => noX (vf ρ1) >>= fun v => SM.lift (guardR (decide (a.len < 16777216)) >>= fun _ => a.put k v) >>= fun a' => compDS tg test kf vf ρ ds a' else compDS tg test kf vf ρ ds a
def eDict2 (a0 : DAcc) (src : En → SM (List D)) (vs : List Nat) (tg : D → En → R En) (test : En → R Bool) (kf vf : En → SM D) : En → SM D := fun ρ =>
  src ρ >>= fun ds => SM.lift (guardR (noOwn ρ vs)) >>= fun _ => noX (compDS tg test kf vf (wipeE ρ vs) ds a0) >>= fun a => SM.new a.ob
theorem de2_dc {K : PySem.W.Frag} {E : WX} {u0 : HO} {a0 : DAcc} {wi : TI} {src : En → SM (List D)} {g : TG} {ix : List Nat} {tgf : D → En → R En} {tt : TT} {test : En → R Bool} {tk tv : TE} {kf vf : En → SM D} {vs : List Nat} (h0 : ∀ (I : Iota) (F : Hp), DAt I K F u0 a0)
    (hi : DI2 K E wi src) (hg : ∀ I : Iota, @DG I K g ix tgf) (ht : ∀ I : Iota, @DT I K tt test) (hk : DE2 K EF tk kf) (hv : DE2 K EF tv vf) (hix : ∀ i ∈ ix, i ∈ vs) : DE2 K E (tDcG u0 wi g tt tk tv vs) (eDict2 a0 src vs tgf test kf vf) := fun I W F0 σ ρ S F H Q o g0 => by
  refine hi I W F0 σ ρ S F H _ o ((G2.of_bind g0).imp (fun xs S1 g1 I1 J F1 H1 l1 o1 s1 wk => ?_) fun _ _ h => h)
  obtain ⟨u, gd, g2⟩ := lift_bind g1
  have gd' := of_guard gd
  intro D hD
  have o1w := (o1.self).wipe vs
  have apD : Apart σ ρ D := by obtain ⟨V, b, _⟩ := id o1; exact @Ok.apart I1 K V F0 F1 H1 σ ρ b D hD
  have lenO : σ.length = ρ.length := by obtain ⟨V, b, _⟩ := id o1; exact @Ok.len I1 K V F0 σ ρ F1 H1 b
  have apDw : Apart (wipe σ vs) (wipeE ρ vs) D := apD.wipe lenO vs
  have fD1 : F1 D = none := Same.free o1.subF hD
  have wD1 : W D = none := by obtain ⟨V, b, st⟩ := id o1; exact Same.free st.sub (Same.free (@Ok.toOkB I1 K V F0 σ ρ F1 H1 b).wld hD)
  have g3 := noX_of (G2.of_bind g2)
  let Pv : Nat → Hp → Prop := fun i H' => ∃ (L : Iota) (S' : Store) (F' : Hp) (u : HO) (a : DAcc), Iota.le I1 L ∧ Same F1 F' ∧ Mk2 L K S' W F1 (wipe σ vs) (wipeE ρ vs) D u F' H' ∧ DAt L K F' u a ∧
    G2 (compDS tgf test kf vf (wipeE ρ vs) (xs.drop i) a S') (fun a2 S2 => ∀ (L2 : Iota) v F2 H2, Iota.le I1 L2 → Ok2 L2 K (S2 ++ [a2.ob]) W F1 (wipe σ vs) (wipeE ρ vs) F2 H2 → Same F1 F2 → @Rp L2 K F2 v (.ref S2.length) → Q v H2) (fun _ _ => False)
  refine ⟨fun i m H' => m = xs.length - i ∧ i ≤ xs.length ∧ Pv i H', ⟨xs.length, rfl, Nat.zero_le _, I1, S1, F1, u0, a0, Iota.le.refl _, Same.refl _, ⟨o1w.guard hD, upd_same, wD1, fD1, apDw⟩, h0 I1 F1, ?_⟩, ?_⟩
  · rw [List.drop_zero]
    refine g3.imp (fun a2 S2 k L2 v F2 H2 l2 o2 s2 r2 => ?_) fun _ _ h => h
    exact k L2 v F2 H2 (l1.trans l2) (o1.unwipe l2 gd' (o2.rebase (o1.wipe vs)) s2) (s1.trans s2) r2
  · rintro i m H' ⟨rfl, hil, L, S', F', u, a, lL, sF, mk, hat, g3⟩
    have wk' := (Walks.ext lL wk) F' H' sF mk.ok.subF i
    by_cases hlt : i < xs.length
    · have hx : xs[i]? = some xs[i] := List.getElem?_eq_getElem hlt
      rw [take_succ hx] at g3
      obtain ⟨ρ1, e4, g4⟩ := lift_bind g3
      obtain ⟨b, e6, g5⟩ := lift_bind g4
      obtain ⟨hgo, hy⟩ := wk'.2 _ hx
      refine .inr ⟨hgo, fun H2 => i + 1 ≤ xs.length ∧ Pv (i + 1) H2, fun H2 n => ⟨xs.length - (i + 1), by omega, rfl, n.1, n.2⟩, fun x H3 yl => ?_⟩
      have item : ∃ F3, Mk2 L K S' W F1 (wipe σ vs) (wipeE ρ vs) D u F3 H3 ∧ Same F' F3 ∧ @Rp L K F3 x xs[i] := by
        rcases hy x H3 yl with ⟨e8, r8⟩ | ⟨p, u', hp, e8, r8⟩
        · subst e8; exact ⟨F', mk, Same.refl _, r8⟩
        · subst e8
          have np : D ≠ p := ne_of_none mk.at_ hp
          obtain ⟨o5, s5⟩ := mk.ok.frozen u' hp
          exact ⟨_, ⟨o5, by rw [upd_ne np]; exact mk.at_, mk.wD, by rw [upd_ne np]; exact mk.fD, mk.ap⟩, s5, r8⟩
      obtain ⟨F3, m3, s3, r3⟩ := item
      obtain ⟨V, b3, st3⟩ := id m3.ok
      refine hg L V F3 (wipe σ vs) (wipeE ρ vs) ρ1 F3 H3 x xs[i] _ (@Ok.self L K V F1 F3 H3 _ _ b3) r3 e4 fun σ1 b4 l4 k4 => ?_
      have ls : σ1.length = σ.length := l4.trans (wipe_length σ vs)
      have wS : wipe σ1 vs = wipe σ vs := wipe_same ls fun j hj => (k4 j fun z => hj (hix j z)).1
      have wE : wipeE ρ1 vs = wipeE ρ vs := wipeE_same (by rw [← @Ok.len L K V F3 σ1 ρ1 F3 H3 b4, ls, lenO]) fun j hj => (k4 j fun z => hj (hix j z)).2
      refine ⟨wS, ?_⟩
      have b4' := @Ok.rebase L K V F1 F3 H3 σ1 ρ1 F3 H3 b4 (@Ok.toOkB L K V F1 _ _ F3 H3 b3)
      refine ht L V F3 σ1 ρ1 F3 H3 b _ b4 e6 fun F5 H5 o5 s5 => ?_
      have o5' := Ok2.after b4' st3 o5 s5
      cases b with
      | true =>
        rw [if_pos rfl] at g5
        refine iteT (hk L _ F1 σ1 ρ1 S' F5 H5 _ o5' ((noX_of (G2.of_bind g5)).imp (fun y S2 g6 M w F6 H6 l6 o6 s6 r6 => ?_) fun _ _ h => h.elim))
        refine hv M _ F1 σ1 ρ1 S2 F6 H6 _ o6 ((noX_of (G2.of_bind g6)).imp (fun z S3 g7 N w2 F7 H7 l7 o7 s7 r7 => ?_) fun _ _ h => h.elim)
        obtain ⟨a', e7, g8⟩ := lift_bind g7
        obtain ⟨_, gl, e8⟩ := R.of_bind e7
        have o8 := o7.wipe vs
        rw [wS, wE] at o8
        have s37 : Same F3 F7 := (s5.trans s6).trans s7
        have hat7 : DAt N K F7 u a := hat.mono (l6.trans l7) (s3.trans s37)
        obtain ⟨u', dp, hat8⟩ := hat7.put o7.wldAt o7.subF (@Rp.mono N K F6 F7 s7 _ _ (Rp.ext l7 r6)) r7 e8 (of_decide_eq_true (of_guard gl))
        have m7 : Mk2 N K S3 W F1 (wipe σ vs) (wipeE ρ vs) D u F7 H7 := ⟨o8, o7.wldAt, wD1, o7.fAt fD1 hat.nt, apDw⟩
        exact ⟨_, dp, by omega, N, S3, F7, u', a', (lL.trans l6).trans l7, (sF.trans s3).trans s37, m7.chg u', hat8, g8⟩
      | false =>
        rw [if_neg Bool.false_ne_true] at g5
        have o7 := o5'.wipe vs
        rw [wS, wE] at o7
        exact iteF ⟨by omega, L, S', F5, u, a, lL, (sF.trans s3).trans s5, ⟨o7, o5'.wldAt, wD1, o5'.fAt fD1 hat.nt, apDw⟩, hat.mono (Iota.le.refl L) (s3.trans s5), g5⟩
    · have ei : i = xs.length := by omega
      subst ei
      rw [List.drop_length] at g3
      refine .inl ⟨wk'.1 rfl, ?_⟩
      have o6 := mk.store (ob := a.ob) fun V1 e => hat.obOk e
      have g6 : ∀ (L2 : Iota) v F2 H2, Iota.le I1 L2 → Ok2 L2 K (S' ++ [a.ob]) W F1 (wipe σ vs) (wipeE ρ vs) F2 H2 → Same F1 F2 → @Rp L2 K F2 v (.ref S'.length) → Q v H2 := g3
      exact g6 (L.push D) _ F' H' (lL.trans (Iota.le_push L D)) o6 sF ((@rp_ref (L.push D) K F' _ _).mpr ⟨D, rfl, push_at L mk.ok.lenI⟩)
/-- the empty dict of the kind that is wanted -/
def a0K : DAcc := .k [] []
def a0T : DAcc := .t [] []
theorem at0K (I : Iota) {K : PySem.W.Frag} (F : Hp) : DAt I K F (.dK []) a0K := ⟨[], rfl, rfl, @Rps.nil I K F⟩
theorem at0T (I : Iota) {K : PySem.W.Frag} (F : Hp) : DAt I K F (.dT []) a0T := ⟨[], rfl, rfl, @Rps.nil I K F⟩
theorem pe2_dc {X : Cx} {E : WX} {u0 : HO} {a0 : DAcc} {kx vx tg iter : Expr} {ifs : List Expr} {scope : Scope} {own : List (Str × Nat)} {pos : Pos} {wi : TI} {g : Shared → Hp → Addr → List (Str × Addr) → List Addr → TG} {ix : List Nat} {tt : Shared → Hp → Addr → List (Str × Addr) → List Addr → TT} {tk tv : Shared → Hp → Addr → List (Str × Addr) → List Addr → TE} {src : En → SM (List D)} {tgf : D → En → R En} {test : En → R Bool} {kf vf : En → SM D}
    (hu0 : ∀ {P : Program} {w : World} {H : Hp} (h : Heap), sysModules < h.objs.size → ObjOk P w H (h.push { cls := .type "dict", data := .dict #[] }) h.objs.size u0) (h0 : ∀ (I : Iota) (F : Hp), DAt I X.K F u0 a0) (hu : X.A.units + 1 < cLine) (hc : X.calm = true) (hN : X.N.Nodup) (hi : PI2 X E tg iter wi src) (ok : BlkOk X.N X.env.scope scope own)
    (hg : ∀ (I : Iota) (s : Shared) (H : Hp) (C : Addr) (cl : List (Str × Addr)) (fp : List Addr), @PGD I (X.blk s H scope (compEnvC scope cl C X.env) fp) tg (g s H C cl fp) ix tgf) (ht : ∀ (I : Iota) (s : Shared) (H : Hp) (C : Addr) (cl : List (Str × Addr)) (fp : List Addr), @PTsD I (X.blk s H scope (compEnvC scope cl C X.env) fp) ifs (tt s H C cl fp) test)
    (hk : ∀ (s : Shared) (H : Hp) (C : Addr) (cl : List (Str × Addr)) (fp : List Addr), PE2 (X.blk s H scope (compEnvC scope cl C X.env) fp) EF kx (tk s H C cl fp) kf)
    (hv : ∀ (s : Shared) (H : Hp) (C : Addr) (cl : List (Str × Addr)) (fp : List Addr), PE2 (X.blk s H scope (compEnvC scope cl C X.env) fp) EF vx (tv s H C cl fp) vf) (hix : ∀ i ∈ ix, i ∈ own.map (·.2) := by decide) (hge : ∀ s H C cl fp, g s H C cl fp = g X.s_0 X.H_0 0 [] [] := by intros; rfl) (hte : ∀ s H C cl fp, tt s H C cl fp = tt X.s_0 X.H_0 0 [] [] := by intros; rfl) (hke : ∀ s H C cl fp, tk s H C cl fp = tk X.s_0 X.H_0 0 [] [] := by intros; rfl) (hve : ∀ s H C cl fp, tv s H C cl fp = tv X.s_0 X.H_0 0 [] [] := by intros; rfl) (hs : ∀ x, foldedSetIterable iter X.env x = pure x := by intro _; rfl) :
    PE2 X E (.DictComp kx vx [⟨tg, iter, ifs, 0⟩] scope pos) (tDcG u0 wi (g X.s_0 X.H_0 0 [] []) (tt X.s_0 X.H_0 0 [] []) (tk X.s_0 X.H_0 0 [] []) (tv X.s_0 X.H_0 0 [] []) (own.map (·.2))) (eDict2 a0 src (own.map (·.2)) tgf test kf vf) :=
  ⟨pe_dcG hu0 hu hc hN hi.pe ok (fun s H C cl fp => hge s H C cl fp ▸ @PGD.pe ⟨[]⟩ _ _ _ _ _ (hg ⟨[]⟩ s H C cl fp)) (fun s H C cl fp => hte s H C cl fp ▸ @PTsD.pe ⟨[]⟩ _ _ _ _ (ht ⟨[]⟩ s H C cl fp)) (fun s H C cl fp => hke s H C cl fp ▸ (hk s H C cl fp).pe) (fun s H C cl fp => hve s H C cl fp ▸ (hv s H C cl fp).pe) hs,
    de2_dc h0 hi.de (fun I => @PGD.de I (X.blk X.s_0 X.H_0 scope (compEnvC scope [] 0 X.env) []) _ _ _ _ (hg I X.s_0 X.H_0 0 [] [])) (fun I => @PTsD.de I (X.blk X.s_0 X.H_0 scope (compEnvC scope [] 0 X.env) []) _ _ _ (ht I X.s_0 X.H_0 0 [] [])) (hk X.s_0 X.H_0 0 [] []).de (hv X.s_0 X.H_0 0 [] []).de hix⟩
end DD

/-! SL27: {x: d[x] for x in d}: a copy of a dict of the store -/
namespace DD
open PySem PySem.Spec PyProof.Rows L2

def copyG {κ : Type} [DecidableEq κ] (ks : List κ) (ds : List D) : List κ → List κ → List D → R (List κ × List D)
  | [], ks1, ds1 => .ok (ks1, ds1)
  | k :: r, ks1, ds1 => match lookG ks ds k with
    | some d => guardR (decide (ds1.length < 16777216)) >>= fun _ => copyG ks ds r (putKk ks1 k) (putAt ks1 ds1 k d)
    | none => .bad
def copyS (x : D) : SM D := fun S => match x with
  | .ref n => (match S[n]? with
    | some (.dK ks ds) => (match copyG ks ds ks [] [] with
      | .ok (ks1, ds1) => .ok (.ref S.length) (S ++ [.dK ks1 ds1])
      | _ => .bad)
    | some (.dT ks ds) => (match copyG ks ds ks [] [] with
      | .ok (ks1, ds1) => .ok (.ref S.length) (S ++ [.dT ks1 ds1])
      | _ => .bad)
    | _ => .bad)
  | _ => .bad
/-- one step of the copy, whatever the keys are -/
theorem copy_step {κ : Type} [DecidableEq κ] {I : Iota} {K : PySem.W.Frag} {F : Hp} {ks : List κ} {ds : List D} {vs : List V} (ln : ks.length = vs.length) (rv : @Rps I K F vs ds) {i : Nat} {k : κ} (hk : ks[i]? = some k) {ks1 ks2 : List κ} {ds1 ds2 : List D} {vs1 : List V} (l1 : ks1.length = vs1.length) (r1 : @Rps I K F vs1 ds1)
    (h : copyG ks ds (ks.drop i) ks1 ds1 = .ok (ks2, ds2)) : ∃ (v : V) (d : D), valV (ks.zip vs) k = some v ∧ ds1.length < 16777216 ∧ @Rp I K F v d ∧ copyG ks ds (ks.drop (i + 1)) (putKk ks1 k) (putAt ks1 ds1 k d) = .ok (ks2, ds2) ∧ @Rps I K F (putAt ks1 vs1 k v) (putAt ks1 ds1 k d) := by
  rw [take_succ hk] at h
  have h' : (match lookG ks ds k with
    | some d => guardR (decide (ds1.length < 16777216)) >>= fun _ => copyG ks ds (ks.drop (i + 1)) (putKk ks1 k) (putAt ks1 ds1 k d)
    | none => R.bad) = .ok (ks2, ds2) := h
  cases hl : lookG ks ds k with
  | none => rw [hl] at h'; cases h'
  | some d =>
    rw [hl] at h'
    obtain ⟨u, g, h2⟩ := R.of_bind h'
    obtain ⟨v, hv, rd⟩ := (lookG_ok (F := F) k ln rv).1 d hl
    exact ⟨v, d, hv, of_decide_eq_true (of_guard g), rd, h2, rps_putAt rd l1 r1⟩
theorem upd_back {H : Hp} {a D : Addr} {o u w : HO} (ha : H a = some u) (h : D ≠ a) : upd (upd (upd H a o) D w) a u = upd H D w := by
  funext b
  by_cases hb : b = a
  · subst hb; rw [upd_same, upd_ne (Ne.symm h), ha]
  · rw [upd_ne hb]
    by_cases hd : b = D
    · subst hd; rw [upd_same, upd_same]
    · rw [upd_ne hd, upd_ne hd, upd_ne hb]
section
variable {X : Cx} {E : WX} {x y : Str} {p1 p2 p3 p4 p5 pos : Pos} {scope : Scope} {i j : Nat}
theorem zip_get {κ : Type} {ks : List κ} {vs : List V} {i : Nat} {k : κ} {v : V} (h : (ks.zip vs)[i]? = some (k, v)) : ks[i]? = some k := by
  rw [List.getElem?_zip_eq_some] at h; exact h.1
theorem de2_copyT {K : PySem.W.Frag} (hji : j ≠ i) : ∀ (I : Iota) (W F0 : Hp) (σ : L2.St) (ρ : En) (S : Store) (F H : Hp) (Q : VK), Ok2 I K S W F0 σ ρ F H → ∀ (n : Nat) (ks : List (List Key)) (ds : List DD.D) (ks2 : List (List Key)) (ds2 : List DD.D), ρ[j]? = some (.fz (.ref n)) → i < ρ.length → S[n]? = some (.dT ks ds) → copyG ks ds ks [] [] = .ok (ks2, ds2) →
    (∀ (I' : Iota) v F' H', Iota.le I I' → Ok2 I' K (S ++ [.dT ks2 ds2]) W F0 σ ρ F' H' → Same F F' → @Rp I' K F' v (.ref S.length) → Q v H') → tLockE (tDcG (.dT []) (iKeys (tVar j)) (gName i) tYes (tVar i) (tDGet (tVar j) (tVar i)) [i]) σ H Q := by
  intro I W F0 σ ρ S F H Q o n ks ds ks2 ds2 hj hi hS hc q
  obtain ⟨V1, b1, st⟩ := id o
  obtain ⟨x0, hx0, v0, hv0, r0⟩ := @slot_at I K V1 F0 F H σ ρ b1 j _ hj
  have lenO : σ.length = ρ.length := @Ok.len I K V1 F0 σ ρ F H b1
  obtain ⟨a, rfl, ha⟩ := (@rp_ref I K F v0 n).mp r0
  subst hv0
  obtain ⟨vs, hH, ln, rv⟩ := o.get hS ha
  refine ⟨a, _, hH, True.intro, fun od => ?_⟩
  refine ⟨.ref a, hx0, a, od, rfl, .inr ⟨ks.zip vs, upd_same, fun D hD => ?_⟩⟩
  have na : D ≠ a := fun z => by rw [z, upd_same] at hD; cases hD
  rw [upd_ne na] at hD
  have hlen : (ks.zip vs).length = ks.length := by rw [List.length_zip, ln, Nat.min_self]
  refine ⟨fun t m H' => m = ks.length - t ∧ t ≤ ks.length ∧ ∃ (ks1 : List (List Key)) (ds1 : List DD.D) (vs1 : List V), H' = upd (upd H a (.frz od (.dT (ks.zip vs)))) D (.dT (ks1.zip vs1)) ∧ ks1.length = vs1.length ∧ @Rps I K F vs1 ds1 ∧ copyG ks ds (ks.drop t) ks1 ds1 = .ok (ks2, ds2),
    ⟨ks.length, rfl, Nat.zero_le _, [], [], [], rfl, rfl, @Rps.nil I K F, by rw [List.drop_zero]; exact hc⟩, ?_⟩
  rintro t m H' ⟨rfl, ht, ks1, ds1, vs1, rfl, l1, r1, hcc⟩
  have hDa : upd (upd H a (.frz od (.dT (ks.zip vs)))) D (.dT (ks1.zip vs1)) a = some (.frz od (.dT (ks.zip vs))) := by rw [upd_ne (Ne.symm na), upd_same]
  by_cases hlt : t < ks.length
  · refine .inr ⟨⟨hDa, by rw [hlen]; exact hlt⟩, fun H2 => t + 1 ≤ ks.length ∧ ∃ (ks1 : List (List Key)) (ds1 : List DD.D) (vs1 : List V), H2 = upd (upd H a (.frz od (.dT (ks.zip vs)))) D (.dT (ks1.zip vs1)) ∧ ks1.length = vs1.length ∧ @Rps I K F vs1 ds1 ∧ copyG ks ds (ks.drop (t + 1)) ks1 ds1 = .ok (ks2, ds2),
      fun H2 h => ⟨ks.length - (t + 1), by omega, rfl, h.1, h.2⟩, fun x H3 yl => ?_⟩
    obtain ⟨rfl, k, v, b, hkv, rfl, hb⟩ := yl
    obtain ⟨w, d, hw, hl, rd, hcc2, r2⟩ := copy_step ln rv (zip_get hkv) l1 r1 hcc
    have e1 : (wipe σ [i]) = σ.set i none := rfl
    have hiσ : i < σ.length := by rw [lenO]; exact hi
    have si : ((wipe σ [i]).set i (some (V.ref b)))[i]? = some (some (V.ref b)) := by rw [e1, List.getElem?_set_self (by rw [List.length_set]; exact hiσ)]
    have sj : ((wipe σ [i]).set i (some (V.ref b)))[j]? = some (some (V.ref a)) := by rw [e1, List.getElem?_set_ne (Ne.symm hji), List.getElem?_set_ne (Ne.symm hji)]; exact hx0
    refine ⟨by rw [e1]; show ((σ.set i none).set i _).set i none = _; rw [List.set_set, List.set_set], ?_⟩
    have fin : ∃ H6, DPut (upd (upd H a (.frz od (.dT (ks.zip vs)))) D (.dT (ks1.zip vs1))) D (.ref b) w H6 ∧ (t + 1 ≤ ks.length ∧ ∃ (ks1 : List (List Key)) (ds1 : List DD.D) (vs1 : List V), H6 = upd (upd H a (.frz od (.dT (ks.zip vs)))) D (.dT (ks1.zip vs1)) ∧ ks1.length = vs1.length ∧ @Rps I K F vs1 ds1 ∧ copyG ks ds (ks.drop (t + 1)) ks1 ds1 = .ok (ks2, ds2)) := by
      refine ⟨_, DPut.t (kvs := ks1.zip vs1) upd_same hb (by rw [List.length_zip, l1, Nat.min_self, @Rps.length I K F vs1 ds1 r1, line_eq]; exact hl), by omega, putKk ks1 k, putAt ks1 ds1 k d, putAt ks1 vs1 k w, ?_, putKk_len l1, r2, hcc2⟩
      rw [upd_twice, zip_putK l1]
    exact ⟨.ref b, si, .ref a, sj, .ref b, si, a, w, rfl, .inr ⟨_, k, b, .inr ⟨od, hDa⟩, rfl, hb, hw.symm⟩, fin⟩
  · have et : t = ks.length := by omega
    subst et
    rw [List.drop_length] at hcc
    cases hcc
    refine .inl ⟨⟨hDa, by rw [hlen]; exact Nat.le_refl _⟩, hDa, ?_⟩
    rw [upd_back hH na]
    have o2 := o.alloc (u := .dT (ks2.zip vs1)) (ob := .dT ks2 ds2) hD fun V1 hV => ⟨vs1, hV, l1, r1⟩
    exact q (I.push D) _ F _ (Iota.le_push I D) o2 (Same.refl _) ((@rp_ref (I.push D) K F _ _).mpr ⟨D, rfl, push_at I o.lenI⟩)
end
end DD

/-! SL28: more of the data layer: min, max of two; l.index; unpacking; a constant's tuple -/
namespace DD
open PySem PySem.Spec PyProof.Rows L2
section
variable [Iota]
/-! ### min(i, j), max(i, j) -/
def dMax2 := d2 fun x y => match x, y with
  | .int i, .int j => .ok (.int (if j > i then j else i))
  | _, _ => .bad
def dMin2 := d2 fun x y => match x, y with
  | .int i, .int j => .ok (.int (if j < i then j else i))
  | _, _ => .bad
theorem dc_max2 {K : PySem.W.Frag} : DCl K (fun xs H Q => ∃ i j, xs = [.int i, .int j] ∧ Q (.int (if j > i then j else i)) H) dMax2 := dc2 fun W F0 σ ρ F H v w d d' e Q o r r' h q => by
  cases d <;> first | (cases h; done) | skip
  cases d' <;> first | (cases h; done) | skip
  cases h
  cases rp_int.mp r; cases rp_int.mp r'
  exact ⟨_, _, rfl, q _ F H o (Same.refl _) (rp_int.mpr rfl)⟩
theorem dc_min2 {K : PySem.W.Frag} : DCl K (fun xs H Q => ∃ i j, xs = [.int i, .int j] ∧ Q (.int (if j < i then j else i)) H) dMin2 := dc2 fun W F0 σ ρ F H v w d d' e Q o r r' h q => by
  cases d <;> first | (cases h; done) | skip
  cases d' <;> first | (cases h; done) | skip
  cases h
  cases rp_int.mp r; cases rp_int.mp r'
  exact ⟨_, _, rfl, q _ F H o (Same.refl _) (rp_int.mpr rfl)⟩
/-! ### l.index(x), plain data -/
mutual
def toPy : D → Option PyData
  | .non => some .none
  | .bl b => some (.bool b)
  | .int i => some (.int i)
  | .str s => some (.str s)
  | .tup ds => (toPys ds).map .tuple
  | .lst ds => (toPys ds).map .list
  | _ => none
def toPys : List D → Option (List PyData)
  | [] => some []
  | d :: ds => match toPy d, toPys ds with
    | some p, some ps => some (p :: ps)
    | _, _ => none
end
section
variable {K : PySem.W.Frag} {F H : Hp}
mutual
theorem dp_of (s : Same F H) : ∀ (d : D) (v : V) (p : PyData), Rp K F v d → toPy d = some p → Dp K H v p
  | .non, v, p, r, h => by cases h; cases rp_non.mp r; exact .non
  | .bl b, v, p, r, h => by cases h; cases rp_bl.mp r; exact .bl _
  | .int b, v, p, r, h => by cases h; cases rp_int.mp r; exact .int _
  | .str b, v, p, r, h => by cases h; cases rp_str.mp r; exact .str _
  | .tup ds, v, p, r, h => by
    have h' : (toPys ds).map PyData.tuple = some p := h
    cases e : toPys ds with
    | none => rw [e] at h'; cases h'
    | some ps =>
      rw [e] at h'; cases h'
      obtain ⟨a, xs, rfl, ha, r2⟩ := rp_tup.mp r
      exact .tup (Same.seqT s ha) (dps_of s ds xs ps r2 e)
  | .lst ds, v, p, r, h => by
    have h' : (toPys ds).map PyData.list = some p := h
    cases e : toPys ds with
    | none => rw [e] at h'; cases h'
    | some ps =>
      rw [e] at h'; cases h'
      obtain ⟨a, xs, rfl, ha, r2⟩ := rp_lst.mp r
      exact .lst (SqL.of (s _ _ ha)) (dps_of s ds xs ps r2 e)
  | .ktup _, v, p, r, h => by cases h
  | .rol _, v, p, r, h => by cases h
  | .dic _ _, v, p, r, h => by cases h
  | .ref _, v, p, r, h => by cases h
  | .clr _, v, p, r, h => by cases h
  | .ty _, v, p, r, h => by cases h
  | .exn _ _ _, v, p, r, h => by cases h
theorem dps_of (s : Same F H) : ∀ (ds : List D) (vs : List V) (ps : List PyData), Rps K F vs ds → toPys ds = some ps → DpAll K H vs ps
  | [], vs, ps, r, h => by cases h; rw [r.of_nil]; exact .nil
  | d :: ds, vs, ps, r, h => by
    have h' : (match toPy d, toPys ds with
      | some p, some ps => some (p :: ps)
      | _, _ => none) = some ps := h
    obtain ⟨y, ys, rfl, r1, r2⟩ := r.of_cons
    cases e1 : toPy d with
    | none => rw [e1] at h'; cases h'
    | some p =>
      cases e2 : toPys ds with
      | none => rw [e1, e2] at h'; cases h'
      | some qs =>
        rw [e1, e2] at h'; cases h'
        exact .cons (dp_of s d y p r1 e1) (dps_of s ds ys qs r2 e2)
end
end
def dIndexL (ds : List D) (x : D) : R D := match toPys ds, toPy x with
  | some ps, some p => guardR (SeqAt.shaped (.list ps) && SeqAt.shaped p) >>= fun _ => (match ps.findIdx? (fun z => PyData.eqv z p) with
    | some j => .ok (.int j)
    | none => .bad)
  | _, _ => .bad
section
variable {X : Cx} {o e : Expr} {te to : TE} {fe fo : En → R D} {apos cpos : Pos}
theorem hu65_of {A : Around} {k : Nat} (hr : Room k A) : A.units + 65 < cLine := by have := hr.un; omega
theorem index_ok {K : PySem.W.Frag} {W F0 F H : Hp} {σ : L2.St} {ρ : En} {p : Addr} {vs : List V} {ds : List D} {y : V} {x d : D} {Q : VK} (o : Ok K W F0 σ ρ F H) (hl : SqL K H p vs) (rv : Rps K F vs ds) (ry : Rp K F y x) (e : dIndexL ds x = .ok d) (q : ∀ j : Nat, d = .int j → Q (.int (j : Nat)) H) : rIndexD K (.ref p) [y] H Q := by
  unfold dIndexL at e
  split at e
  · rename_i ps pp e1 e2
    obtain ⟨u, g, e3⟩ := R.of_bind e
    have g' := of_guard g
    rw [Bool.and_eq_true] at g'
    split at e3
    · rename_i j hj
      cases e3
      rw [List.findIdx?_eq_some_iff_getElem] at hj
      obtain ⟨hlt, hj1, hj2⟩ := hj
      refine ⟨p, y, pp, ps, j, ps[j], rfl, rfl, .lst hl (dps_of o.sub ds vs ps rv e1), dp_of o.sub x y pp ry e2, g'.1, g'.2, List.getElem?_eq_getElem hlt, hj1, fun m z hm hz => ?_, q j rfl⟩
      obtain ⟨hl2, ez⟩ := List.getElem?_eq_some_iff.mp hz
      have := hj2 m hm
      subst ez
      simpa using this
    · cases e3
  · cases e
theorem pd_index (hu : X.A.units + 65 < cLine) (ho : PD X o to fo) (he : PD X e te fe)
    (hbase : attributeBase o "index" X.env (eval o X.env) = eval o X.env := by rfl)
    (hfew : ((backTo cpos (starEach [e] X.env)).all (fun x => !x.1) && (backToKw cpos (keywordEach [] X.env)).all (fun x => x.1.isSome)
      && decide (([e] : List Expr).length + ([] : List Keyword).length + (if ([] : List Keyword).isEmpty then 0 else 1) < 30)) = true := by rfl)
    (hline : (apos.endLine == cpos.line) = true := by rfl) (hst : starEach [e] X.env = (false, eval e X.env) :: starEach [] X.env := by rfl) (hplain : (backTo cpos (starEach [] X.env)).any (·.1) = false := by rfl) :
    PD X (.Call (.Attribute o "index" apos) [e] [] cpos) (tBM X.K "list" (rIndexD X.K) to (tCons te tNil)) (fun ρ => fo ρ >>= fun l => fe ρ >>= fun x => ofLst l >>= fun ds => dIndexL ds x) := by
  refine ⟨pe_bm PySem.F.plainAttrs_list PySem.F.slot_list_index PySem.F.type_list_index (mt_indexD hu) ho.pe (pa_cons he.pe pa_nil hst) hbase hfew hline hst hplain, fun W F0 σ ρ F H d Q oo e q => ?_⟩
  obtain ⟨l, e1, e'⟩ := R.of_bind e
  obtain ⟨x, e2, e''⟩ := R.of_bind e'
  obtain ⟨ds, e3, e4⟩ := R.of_bind e''
  refine ho.de W F0 σ ρ F H l _ oo e1 fun p F1 H1 o1 s1 r => ?_
  have el : l = .lst ds := by cases l <;> first | (cases e3; done) | (cases e3; rfl)
  subst el
  obtain ⟨a, vs, rfl, ha, rv⟩ := rp_lst.mp r
  refine ⟨.inl ⟨rfl, vs, SqL.of (o1.sub _ _ ha)⟩, ?_⟩
  refine he.de W F0 σ ρ F1 H1 x _ o1 e2 fun v F2 H2 o2 s2 r2 => ?_
  refine index_ok o2 (SqL.of (o2.sub _ _ (s2 _ _ ha))) (rv.mono s2) r2 e4 fun j ej => q _ F2 H2 o2 (s1.trans s2) (ej ▸ rp_int.mpr rfl)
theorem pd_indexO (hu : X.A.units + 65 < cLine) {i : Nat} {x : Str} {px : Pos} (he : PD X e te fe) (hN : X.N[i]? = some x := by rfl) (hv : Vis X.env.scope x := by first | exact Or.inl rfl | exact Or.inr (Or.inl rfl) | exact Or.inr (Or.inr rfl))
    (hd : (x == ("__debug__" : Str)) = false := by decide) (hcd : (x == ("__classdict__" : Str)) = false := by decide)
    (hbase : attributeBase (.Name x px) "index" X.env (eval (.Name x px) X.env) = eval (.Name x px) X.env := by rfl)
    (hfew : ((backTo cpos (starEach [e] X.env)).all (fun x => !x.1) && (backToKw cpos (keywordEach [] X.env)).all (fun x => x.1.isSome)
      && decide (([e] : List Expr).length + ([] : List Keyword).length + (if ([] : List Keyword).isEmpty then 0 else 1) < 30)) = true := by rfl)
    (hline : (apos.endLine == cpos.line) = true := by rfl) (hst : starEach [e] X.env = (false, eval e X.env) :: starEach [] X.env := by rfl) (hplain : (backTo cpos (starEach [] X.env)).any (·.1) = false := by rfl) :
    PD X (.Call (.Attribute (.Name x px) "index" apos) [e] [] cpos) (tBM X.K "list" (rIndexD X.K) (tVar i) (tCons te tNil)) (fun ρ => eOwn i ρ >>= fun ds => fe ρ >>= fun x => dIndexL ds x) := by
  refine ⟨pe_bm PySem.F.plainAttrs_list PySem.F.slot_list_index PySem.F.type_list_index (mt_indexD hu) (pe_var hN hv hd hcd) (pa_cons he.pe pa_nil hst) hbase hfew hline hst hplain, fun W F0 σ ρ F H d Q oo e q => ?_⟩
  obtain ⟨ds, e1, e'⟩ := R.of_bind e
  obtain ⟨y, e2, e3⟩ := R.of_bind e'
  obtain ⟨p, vs, h1, h2, h3, r⟩ := own_at oo e1
  refine ⟨.ref p, h2, .inl ⟨rfl, vs, SqL.of h3⟩, ?_⟩
  refine he.de W F0 σ ρ F H y _ oo e2 fun v F1 H1 o1 s1 r1 => ?_
  obtain ⟨vs1, h4, rv⟩ := own_on o1 h1 h2
  exact index_ok o1 (SqL.of h4) rv r1 e3 fun j ej => q _ F1 H1 o1 s1 (ej ▸ rp_int.mpr rfl)
end
/-! ### an unpacking -/
def sAsgT (f : En → R D) (g : D → En → R En) : En → R Out := fun ρ => f ρ >>= fun d => g d ρ >>= fun ρ' => .ok (.nx ρ')
theorem psd_asgT {X : Cx} {tg e : Expr} {te : TE} {g : TG} {ix : List Nat} {fe : En → R D} {tgf : D → En → R En} {pos : Pos} (he : PD X e te fe) (hg : PGD X tg g ix tgf) (hs : swapsWithSole [tg] e pos.line X.env = pure false := by rfl) (hw : swappedStores [tg] e X.env = pure none := by rfl)
    (h1 : (assignEach [tg] X.env).map (·.2) = [assign tg X.env] := by rfl) : PSD X (.Assign [tg] e pos) (tAsg te g) (sAsgT fe tgf) := by
  refine ⟨ps_asg he.pe hg.pe hs hw h1, fun W F0 σ ρ F H E out o e q => ?_⟩
  obtain ⟨d, e1, e'⟩ := R.of_bind e
  obtain ⟨ρ', e2, e3⟩ := R.of_bind e'
  cases e3
  refine he.de W F0 σ ρ F H d _ o e1 fun v F1 H1 o1 s1 r1 => ?_
  exact hg.de W F0 σ ρ ρ' F1 H1 v d _ o1 r1 e2 fun σ1 o2 _ _ => q σ1 F1 H1 o2
/-! ### a constant's tuple -/
structure KTup (K : PySem.W.Frag) (a : Addr) (ds : List D) : Prop where
  ex : ∃ xs, (∀ H : Hp, SqT K H a xs) ∧ ∀ F : Hp, Rps K F xs ds
theorem KTup.rp {K : PySem.W.Frag} {a : Addr} {ds : List D} (h : KTup K a ds) (F : Hp) : Rp K F (.ref a) (.ktup ds) := by
  obtain ⟨xs, h1, h2⟩ := h.ex
  exact rp_ktup.mpr ⟨a, xs, rfl, h1 F, h2 F⟩
theorem pd_ktup {X : Cx} {x : Str} {a : Addr} {ds : List D} {pos : Pos} (h : KTup X.K a ds) (hm : X.mg x = some (.ref a)) (hg : Gl X x := by rfl) (hd : (x == ("__debug__" : Str)) = false := by decide) : PD X (.Name x pos) (tC (.ref a)) (eC (.ktup ds)) :=
  pd_glob (v := .ref a) (u := .ref a) (d := .ktup ds) hm rfl (fun F => h.rp F) hg hd
end
end DD

/-! SL29: [elt for a in x if .. for b in y if ..] -/
namespace DD
open PySem PySem.Spec PyProof.Rows L2
variable [Iota]
def compR2 (tg : D → En → R En) (test : En → R Bool) (src1 : En → R (List D)) (vs1 : List Nat) (tg1 : D → En → R En) (test1 : En → R Bool) (elt : En → R D) (ρ : En) : List D → R (List D)
  | [] => .ok []
  | d :: ds => tg d ρ >>= fun ρ1 => test ρ1 >>= fun b => if b = true then src1 ρ1 >>= fun xs => compR tg1 test1 elt (wipeE ρ1 vs1) xs >>= fun ys => compR2 tg test src1 vs1 tg1 test1 elt ρ ds >>= fun zs => .ok (ys ++ zs) else compR2 tg test src1 vs1 tg1 test1 elt ρ ds
def eComp2L (src : En → R (List D)) (vs : List Nat) (tg : D → En → R En) (test : En → R Bool) (src1 : En → R (List D)) (vs1 : List Nat) (tg1 : D → En → R En) (test1 : En → R Bool) (elt : En → R D) : En → R (List D) := fun ρ =>
  src ρ >>= fun ds => guardR (noOwn ρ vs) >>= fun _ => compR2 tg test src1 vs1 tg1 test1 elt (wipeE ρ vs) ds >>= fun zs => guardR (decide (zs.length < 16777216)) >>= fun _ => .ok zs
theorem df_lc2 {K : PySem.W.Frag} {wi wi1 : TI} {src src1 : En → R (List D)} {g g1 : TG} {ix ix1 : List Nat} {tgf tgf1 : D → En → R En} {tt tt1 : TT} {test test1 : En → R Bool} {te : TE} {elt : En → R D} {vs vs1 : List Nat}
    (hi : DI K wi src) (hg : DG K g ix tgf) (ht : DT K tt test) (hi1 : DI K wi1 src1) (hg1 : DG K g1 ix1 tgf1) (ht1 : DT K tt1 test1) (he : DE K te elt) (hix : ∀ i ∈ ix, i ∈ vs) (hix1 : ∀ i ∈ ix1, i ∈ vs1) (hvv : ∀ i ∈ vs1, i ∈ vs) :
    DF K (tLc2 wi g tt wi1 g1 tt1 te vs vs1) (eComp2L src vs tgf test src1 vs1 tgf1 test1 elt) := fun W F0 σ ρ F H ds Q o e q => by
  obtain ⟨xs, e1, e'⟩ := R.of_bind e
  obtain ⟨u, gd, e''⟩ := R.of_bind e'
  obtain ⟨zs, e2, e4⟩ := R.of_bind e''
  obtain ⟨u', gd2, e5⟩ := R.of_bind e4
  cases e5
  have gd' := of_guard gd
  have hlen : ds.length < 16777216 := of_decide_eq_true (of_guard gd2)
  refine hi W F0 σ ρ F H xs _ o e1 fun J F1 H1 o1 s1 wk => ?_
  intro D hD
  have fD := (o1.free hD).1
  have wD := (o1.free hD).2
  have apD := o1.apart hD
  have o1' := o1.pushH (.lst []) hD
  refine ⟨fun i m H' => m = xs.length - i ∧ i ≤ xs.length ∧ ∃ (F' : Hp) (acc : List V) (ds1 ds2 : List DD.D), Ok K W F1 (wipe σ vs) (wipeE ρ vs) F' H' ∧ H' D = some (.lst acc) ∧ F' D = none ∧ Rps K F' acc ds1 ∧
    compR2 tgf test src1 vs1 tgf1 test1 elt (wipeE ρ vs) (xs.drop i) = .ok ds2 ∧ ds = ds1 ++ ds2, ⟨xs.length, rfl, Nat.zero_le _, F1, [], [], ds, (o1'.self).wipe vs, upd_same, fD, .nil, e2, rfl⟩, ?_⟩
  rintro i m H' ⟨rfl, hil, F', acc, ds1, ds2, o2, hD', fD', rA, e3, eds⟩
  have sF : Same F1 F' := o2.ext
  have wk' := wk F' H' sF o2.sub i
  by_cases hlt : i < xs.length
  · have hx : xs[i]? = some xs[i] := List.getElem?_eq_getElem hlt
    rw [take_succ hx] at e3
    obtain ⟨ρ1, e4, e5⟩ := R.of_bind e3
    obtain ⟨b, e6, e7⟩ := R.of_bind e5
    obtain ⟨hgo, hy⟩ := wk'.2 _ hx
    refine .inr ⟨hgo, fun H2 => ∃ (F2 : Hp) (acc : List V) (ds1 ds2 : List DD.D), Ok K W F1 (wipe σ vs) (wipeE ρ vs) F2 H2 ∧ H2 D = some (.lst acc) ∧ F2 D = none ∧ Rps K F2 acc ds1 ∧
      compR2 tgf test src1 vs1 tgf1 test1 elt (wipeE ρ vs) (xs.drop (i + 1)) = .ok ds2 ∧ ds = ds1 ++ ds2, fun H2 n => ⟨xs.length - (i + 1), by omega, rfl, by omega, n⟩, fun x H3 yl => ?_⟩
    have apD' : Apart (wipe σ vs) (wipeE ρ vs) D := apD.wipe o1.len vs
    have item : ∃ F3, Ok K W F1 (wipe σ vs) (wipeE ρ vs) F3 H3 ∧ Same F' F3 ∧ Rp K F3 x xs[i] ∧ H3 D = some (.lst acc) ∧ F3 D = none := by
      rcases hy x H3 yl with ⟨e8, r8⟩ | ⟨p, u', hp, e8, r8⟩
      · subst e8; exact ⟨F', o2, Same.refl _, r8, hD', fD'⟩
      · subst e8
        have np : D ≠ p := ne_of_none hD' hp
        exact ⟨_, o2.push u' hp, same_upd (o2.free hp).1, r8, by rw [upd_ne np]; exact hD', by rw [upd_ne np]; exact fD'⟩
    obtain ⟨F3, o3, s3, r3, hD3, fD3⟩ := item
    have o3' := (o3.guard hD3 fD3 apD').self
    refine hg _ _ _ _ ρ1 F3 H3 x _ _ o3' r3 e4 fun σ1 o4 l4 k4 => ?_
    have ls : σ1.length = σ.length := l4.trans (wipe_length σ vs)
    have lr : ρ1.length = ρ.length := by rw [← o4.len, ls, o1.len]
    have wS : wipe σ1 vs = wipe σ vs := wipe_same ls fun j hj => (k4 j fun z => hj (hix j z)).1
    have wE : wipeE ρ1 vs = wipeE ρ vs := wipeE_same lr fun j hj => (k4 j fun z => hj (hix j z)).2
    refine ⟨wS, ?_⟩
    have done : ∀ {F6 H6 : Hp}, Ok K (upd W D (.lst acc)) F3 σ1 ρ1 F6 H6 → Ok K W F3 σ1 ρ1 F6 H6 ∧ H6 D = some (.lst acc) ∧ F6 D = none ∧ Same F3 F6 := fun {F6 H6} o6 =>
      ⟨o6.unguard wD, o6.wld D _ upd_same, o6.new D _ NT.lst upd_same fD3, o6.ext⟩
    have back : ∀ {F6 H6 : Hp}, Ok K W F3 σ1 ρ1 F6 H6 → Ok K W F1 (wipe σ vs) (wipeE ρ vs) F6 H6 := fun {F6 H6} o6 => by
      have o7 := o6.wipe vs
      rw [wS, wE] at o7
      exact o7.rebase o3.toOkB
    refine ht _ _ _ _ F3 H3 b _ o4 e6 fun F5 H5 o5 s5 => ?_
    cases b with
    | false =>
      rw [if_neg Bool.false_ne_true] at e7
      obtain ⟨g1', g2, g3, g4⟩ := done o5
      exact iteF ⟨F5, acc, ds1, ds2, back g1', g2, g3, (rA.mono s3).mono g4, e7, eds⟩
    | true =>
      rw [if_pos rfl] at e7
      obtain ⟨ys, e8, e9⟩ := R.of_bind e7
      obtain ⟨ds3, e10, e11⟩ := R.of_bind e9
      obtain ⟨ds4, e12, e13⟩ := R.of_bind e11
      cases e13
      refine iteT (hi1 _ _ _ _ F5 H5 ys _ o5 e8 fun J1 F6 H6 o6 s6 wk1 => ?_)
      obtain ⟨g1', g2, g3, g4⟩ := done o6
      have ap1 : Apart σ1 ρ1 D := fun k es h1 h2 => by
        obtain ⟨p', vs', ee, hh, ff, ww, rr⟩ := o6.slots k _ _ h2 h1
        cases ee
        rw [upd_same] at ww
        cases ww
      have ap2 : Apart (wipe σ1 vs1) (wipeE ρ1 vs1) D := ap1.wipe (by rw [ls, lr]; exact o1.len) vs1
      refine ⟨fun j k H7 => k = ys.length - j ∧ j ≤ ys.length ∧ ∃ (F7 : Hp) (acc1 : List V) (dsA dsB : List DD.D), Ok K W F6 (wipe σ1 vs1) (wipeE ρ1 vs1) F7 H7 ∧ H7 D = some (.lst acc1) ∧ F7 D = none ∧ Rps K F7 acc1 dsA ∧
        compR tgf1 test1 elt (wipeE ρ1 vs1) (ys.drop j) = .ok dsB ∧ ds = dsA ++ (dsB ++ ds4), ⟨ys.length, rfl, Nat.zero_le _, F6, acc, ds1, ds3, g1'.self.wipe vs1, g2, g3, (rA.mono s3).mono g4, e10, eds⟩, ?_⟩
      rintro j k H7 ⟨rfl, hjl, F7, acc1, dsA, dsB, o7, hD7, fD7, rA1, e14, eds1⟩
      have s67 : Same F6 F7 := o7.ext
      have wk1' := wk1 F7 H7 s67 o7.sub j
      by_cases hlt1 : j < ys.length
      · have hx1 : ys[j]? = some ys[j] := List.getElem?_eq_getElem hlt1
        rw [take_succ hx1] at e14
        obtain ⟨ρ2, e15, e16⟩ := R.of_bind e14
        obtain ⟨b1, e17, e18⟩ := R.of_bind e16
        obtain ⟨hgo1, hy1⟩ := wk1'.2 _ hx1
        refine .inr ⟨hgo1, fun H8 => ∃ (F8 : Hp) (acc1 : List V) (dsA dsB : List DD.D), Ok K W F6 (wipe σ1 vs1) (wipeE ρ1 vs1) F8 H8 ∧ H8 D = some (.lst acc1) ∧ F8 D = none ∧ Rps K F8 acc1 dsA ∧
          compR tgf1 test1 elt (wipeE ρ1 vs1) (ys.drop (j + 1)) = .ok dsB ∧ ds = dsA ++ (dsB ++ ds4), fun H8 n => ⟨ys.length - (j + 1), by omega, rfl, by omega, n⟩, fun x1 H8 yl1 => ?_⟩
        have item1 : ∃ F8, Ok K W F6 (wipe σ1 vs1) (wipeE ρ1 vs1) F8 H8 ∧ Same F7 F8 ∧ Rp K F8 x1 ys[j] ∧ H8 D = some (.lst acc1) ∧ F8 D = none := by
          rcases hy1 x1 H8 yl1 with ⟨e8, r8⟩ | ⟨p, u', hp, e8, r8⟩
          · subst e8; exact ⟨F7, o7, Same.refl _, r8, hD7, fD7⟩
          · subst e8
            have np : D ≠ p := ne_of_none hD7 hp
            exact ⟨_, o7.push u' hp, same_upd (o7.free hp).1, r8, by rw [upd_ne np]; exact hD7, by rw [upd_ne np]; exact fD7⟩
        obtain ⟨F8, o8, s8, r8, hD8, fD8⟩ := item1
        have o8' := (o8.guard hD8 fD8 ap2).self
        refine hg1 _ _ _ _ ρ2 F8 H8 x1 _ _ o8' r8 e15 fun σ2 o9 l9 k9 => ?_
        have ls2 : σ2.length = σ1.length := l9.trans (wipe_length σ1 vs1)
        have lr2 : ρ2.length = ρ1.length := by rw [← o9.len, ls2, ls, lr, o1.len]
        have wS1 : wipe σ2 vs1 = wipe σ1 vs1 := wipe_same ls2 fun z hz => (k9 z fun w => hz (hix1 z w)).1
        have wE1 : wipeE ρ2 vs1 = wipeE ρ1 vs1 := wipeE_same lr2 fun z hz => (k9 z fun w => hz (hix1 z w)).2
        refine ⟨wS1, ?_⟩
        have done1 : ∀ {F9 H9 : Hp}, Ok K (upd W D (.lst acc1)) F8 σ2 ρ2 F9 H9 → Ok K W F6 (wipe σ1 vs1) (wipeE ρ1 vs1) F9 H9 ∧ H9 D = some (.lst acc1) ∧ F9 D = none ∧ Same F8 F9 := fun {F9 H9} oo => by
          have oo7 := oo.wipe vs1
          rw [wS1, wE1] at oo7
          exact ⟨(oo7.unguard wD).rebase o8.toOkB, oo.wld D _ upd_same, oo.new D _ NT.lst upd_same fD8, oo.ext⟩
        refine ht1 _ _ _ _ F8 H8 b1 _ o9 e17 fun F9 H9 oA sA => ?_
        cases b1 with
        | true =>
          rw [if_pos rfl] at e18
          obtain ⟨d', e19, e20⟩ := R.of_bind e18
          obtain ⟨dsC, e21, e22⟩ := R.of_bind e20
          cases e22
          refine iteT (he _ _ _ _ F9 H9 d' _ oA e19 fun y F10 H10 oB sB rB => ?_)
          obtain ⟨h1, h2, h3, h4⟩ := done1 oB
          have la : acc1.length = dsA.length := rA1.length
          refine ⟨acc1, h2, ?_, F10, acc1 ++ [y], dsA ++ [d'], dsC, h1.alter h3 wD ap2, upd_same, h3, ((rA1.mono s8).mono h4).append (Rps.one rB), e21, by rw [eds1, List.append_assoc]; rfl⟩
          rw [line_eq, la]
          have : ds.length = dsA.length + ((d' :: dsC).length + ds4.length) := by rw [eds1, List.length_append, List.length_append]
          simp only [List.length_cons] at this
          omega
        | false =>
          rw [if_neg Bool.false_ne_true] at e18
          obtain ⟨h1, h2, h3, h4⟩ := done1 oA
          exact iteF ⟨F9, acc1, dsA, dsB, h1, h2, h3, (rA1.mono s8).mono h4, e18, eds1⟩
      · have ej : j = ys.length := by omega
        subst ej
        rw [List.drop_length] at e14
        cases e14
        rw [List.nil_append] at eds1
        have wS3 : wipe (wipe σ1 vs1) vs = wipe σ vs := by
          rw [← wS]
          exact wipe_same (wipe_length σ1 vs1) fun z hz => by rw [wipe_get fun w => hz (hvv z w), wipe_get hz]
        have wE3 : wipeE (wipeE ρ1 vs1) vs = wipeE ρ vs := by
          rw [← wE]
          exact wipeE_same (wipeE_length ρ1 vs1) fun z hz => by rw [wipeE_get fun w => hz (hvv z w), wipeE_get hz]
        have oC := o7.wipe vs
        rw [wS3, wE3] at oC
        exact .inl ⟨wk1'.1 rfl, F7, acc1, dsA, ds4, (oC.rebase g1'.toOkB).rebase o3.toOkB, hD7, fD7, rA1, e12, eds1⟩
  · have ei : i = xs.length := by omega
    subst ei
    rw [List.drop_length] at e3
    cases e3
    rw [List.append_nil] at eds
    subst eds
    refine .inl ⟨wk'.1 rfl, ?_⟩
    have o6 := o1.self.unwipe gd' o2 sF
    exact q D acc F' H' (o6.rebase o1.toOkB) (s1.trans sF) hD' fD' wD apD rA
section
variable {X : Cx}
theorem pf_lc2 {elt tg iter tg1 iter1 : Expr} {ifs ifs1 : List Expr} {scope : Scope} {own : List (Str × Nat)} {vs1 : List Nat} {pos : Pos} {wi : TI} {g g1 : Shared → Hp → Addr → List (Str × Addr) → List Addr → TG} {wi1 : Shared → Hp → Addr → List (Str × Addr) → List Addr → TI} {ix ix1 : List Nat} {tt tt1 : Shared → Hp → Addr → List (Str × Addr) → List Addr → TT} {te : Shared → Hp → Addr → List (Str × Addr) → List Addr → TE}
    {src src1 : En → R (List D)} {tgf tgf1 : D → En → R En} {test test1 : En → R Bool} {ef : En → R D}
    (hc : X.calm = true) (hN : X.N.Nodup) (hi : PID X tg iter wi src) (ok : BlkOk X.N X.env.scope scope own)
    (hg : ∀ (s : Shared) (H : Hp) (C : Addr) (cl : List (Str × Addr)) (fp : List Addr), PGD (X.blk s H scope (compEnvC scope cl C X.env) fp) tg (g s H C cl fp) ix tgf) (ht : ∀ (s : Shared) (H : Hp) (C : Addr) (cl : List (Str × Addr)) (fp : List Addr), PTsD (X.blk s H scope (compEnvC scope cl C X.env) fp) ifs (tt s H C cl fp) test)
    (hi1 : ∀ (s : Shared) (H : Hp) (C : Addr) (cl : List (Str × Addr)) (fp : List Addr), PID (X.blk s H scope (compEnvC scope cl C X.env) fp) tg1 iter1 (wi1 s H C cl fp) src1)
    (hg1 : ∀ (s : Shared) (H : Hp) (C : Addr) (cl : List (Str × Addr)) (fp : List Addr), PGD (X.blk s H scope (compEnvC scope cl C X.env) fp) tg1 (g1 s H C cl fp) ix1 tgf1) (ht1 : ∀ (s : Shared) (H : Hp) (C : Addr) (cl : List (Str × Addr)) (fp : List Addr), PTsD (X.blk s H scope (compEnvC scope cl C X.env) fp) ifs1 (tt1 s H C cl fp) test1)
    (he : ∀ (s : Shared) (H : Hp) (C : Addr) (cl : List (Str × Addr)) (fp : List Addr), PD (X.blk s H scope (compEnvC scope cl C X.env) fp) elt (te s H C cl fp) ef) (hv : ∀ i ∈ vs1, i ∈ own.map (·.2) := by decide) (hix : ∀ i ∈ ix, i ∈ own.map (·.2) := by decide) (hix1 : ∀ i ∈ ix1, i ∈ vs1 := by decide)
    (hge : ∀ s H C cl fp, g s H C cl fp = g X.s_0 X.H_0 0 [] [] := by intros; rfl) (hte : ∀ s H C cl fp, tt s H C cl fp = tt X.s_0 X.H_0 0 [] [] := by intros; rfl) (hie1 : ∀ s H C cl fp, wi1 s H C cl fp = wi1 X.s_0 X.H_0 0 [] [] := by intros; rfl) (hge1 : ∀ s H C cl fp, g1 s H C cl fp = g1 X.s_0 X.H_0 0 [] [] := by intros; rfl) (hte1 : ∀ s H C cl fp, tt1 s H C cl fp = tt1 X.s_0 X.H_0 0 [] [] := by intros; rfl) (hee : ∀ s H C cl fp, te s H C cl fp = te X.s_0 X.H_0 0 [] [] := by intros; rfl)
    (hs : ∀ x, foldedSetIterable iter X.env x = pure x := by intro _; rfl) (hs1 : ∀ env x, foldedSetIterable iter1 env x = pure x := by intro _ _; rfl) :
    PF X (.ListComp elt [⟨tg, iter, ifs, 0⟩, ⟨tg1, iter1, ifs1, 0⟩] scope pos) (tLc2 wi (g X.s_0 X.H_0 0 [] []) (tt X.s_0 X.H_0 0 [] []) (wi1 X.s_0 X.H_0 0 [] []) (g1 X.s_0 X.H_0 0 [] []) (tt1 X.s_0 X.H_0 0 [] []) (te X.s_0 X.H_0 0 [] []) (own.map (·.2)) vs1) (eComp2L src (own.map (·.2)) tgf test src1 vs1 tgf1 test1 ef) :=
  ⟨pe_lc2 hc hN hi.pe ok hv (fun s H C cl fp => hge s H C cl fp ▸ (hg s H C cl fp).pe) (fun s H C cl fp => hte s H C cl fp ▸ (ht s H C cl fp).pe) (fun s H C cl fp => hie1 s H C cl fp ▸ (hi1 s H C cl fp).pe) (fun s H C cl fp => hge1 s H C cl fp ▸ (hg1 s H C cl fp).pe) (fun s H C cl fp => hte1 s H C cl fp ▸ (ht1 s H C cl fp).pe) (fun s H C cl fp => hee s H C cl fp ▸ (he s H C cl fp).pe) hs hs1,
    df_lc2 hi.de (hg X.s_0 X.H_0 0 [] []).de (ht X.s_0 X.H_0 0 [] []).de (hi1 X.s_0 X.H_0 0 [] []).de (hg1 X.s_0 X.H_0 0 [] []).de (ht1 X.s_0 X.H_0 0 [] []).de (he X.s_0 X.H_0 0 [] []).de hix hix1 hv⟩
end
end DD

/-! SL30: y = [two clauses]; slots' own lists in a def over the store -/
namespace DD
open PySem PySem.Spec PyProof.Rows L2
section
variable [Iota]
variable {X : Cx}
theorem psd_setLc2 {i : Nat} {y : Str} {py : Pos} {elt tg iter tg1 iter1 : Expr} {ifs ifs1 : List Expr} {scope : Scope} {own : List (Str × Nat)} {vs1 : List Nat} {pos spos : Pos} {wi : TI} {g g1 : Shared → Hp → Addr → List (Str × Addr) → List Addr → TG} {wi1 : Shared → Hp → Addr → List (Str × Addr) → List Addr → TI} {ix ix1 : List Nat} {tt tt1 : Shared → Hp → Addr → List (Str × Addr) → List Addr → TT} {te : Shared → Hp → Addr → List (Str × Addr) → List Addr → TE}
    {src src1 : En → R (List D)} {tgf tgf1 : D → En → R En} {test test1 : En → R Bool} {ef : En → R D}
    (hc : X.calm = true) (hN : X.N.Nodup) (hsw : swapsWith (.ListComp elt [⟨tg, iter, ifs, 0⟩, ⟨tg1, iter1, ifs1, 0⟩] scope pos) (some (.Name y py)) spos.line X.env = pure true) (hi : PID X tg iter wi src) (ok : BlkOk X.N X.env.scope scope own)
    (hg : ∀ (s : Shared) (H : Hp) (C : Addr) (cl : List (Str × Addr)) (fp : List Addr), PGD (X.blk s H scope (compEnvC scope cl C X.env) fp) tg (g s H C cl fp) ix tgf) (ht : ∀ (s : Shared) (H : Hp) (C : Addr) (cl : List (Str × Addr)) (fp : List Addr), PTsD (X.blk s H scope (compEnvC scope cl C X.env) fp) ifs (tt s H C cl fp) test)
    (hi1 : ∀ (s : Shared) (H : Hp) (C : Addr) (cl : List (Str × Addr)) (fp : List Addr), PID (X.blk s H scope (compEnvC scope cl C X.env) fp) tg1 iter1 (wi1 s H C cl fp) src1)
    (hg1 : ∀ (s : Shared) (H : Hp) (C : Addr) (cl : List (Str × Addr)) (fp : List Addr), PGD (X.blk s H scope (compEnvC scope cl C X.env) fp) tg1 (g1 s H C cl fp) ix1 tgf1) (ht1 : ∀ (s : Shared) (H : Hp) (C : Addr) (cl : List (Str × Addr)) (fp : List Addr), PTsD (X.blk s H scope (compEnvC scope cl C X.env) fp) ifs1 (tt1 s H C cl fp) test1)
    (he : ∀ (s : Shared) (H : Hp) (C : Addr) (cl : List (Str × Addr)) (fp : List Addr), PD (X.blk s H scope (compEnvC scope cl C X.env) fp) elt (te s H C cl fp) ef) (hy : X.N[i]? = some y := by rfl) (hyl : X.env.scope.names.lookup y = some .local := by rfl) (hv : ∀ i ∈ vs1, i ∈ own.map (·.2) := by decide) (hix : ∀ i ∈ ix, i ∈ own.map (·.2) := by decide) (hix1 : ∀ i ∈ ix1, i ∈ vs1 := by decide)
    (hge : ∀ s H C cl fp, g s H C cl fp = g X.s_0 X.H_0 0 [] [] := by intros; rfl) (hte : ∀ s H C cl fp, tt s H C cl fp = tt X.s_0 X.H_0 0 [] [] := by intros; rfl) (hie1 : ∀ s H C cl fp, wi1 s H C cl fp = wi1 X.s_0 X.H_0 0 [] [] := by intros; rfl) (hge1 : ∀ s H C cl fp, g1 s H C cl fp = g1 X.s_0 X.H_0 0 [] [] := by intros; rfl) (hte1 : ∀ s H C cl fp, tt1 s H C cl fp = tt1 X.s_0 X.H_0 0 [] [] := by intros; rfl) (hee : ∀ s H C cl fp, te s H C cl fp = te X.s_0 X.H_0 0 [] [] := by intros; rfl)
    (hs : ∀ x, foldedSetIterable iter X.env x = pure x := by intro _; rfl) (hs1 : ∀ env x, foldedSetIterable iter1 env x = pure x := by intro _ _; rfl) :
    PSD X (.Assign [.Name y py] (.ListComp elt [⟨tg, iter, ifs, 0⟩, ⟨tg1, iter1, ifs1, 0⟩] scope pos) spos) (tAsg (tLc2 wi (g X.s_0 X.H_0 0 [] []) (tt X.s_0 X.H_0 0 [] []) (wi1 X.s_0 X.H_0 0 [] []) (g1 X.s_0 X.H_0 0 [] []) (tt1 X.s_0 X.H_0 0 [] []) (te X.s_0 X.H_0 0 [] []) (own.map (·.2)) vs1) (gName i)) (sSet i (toLst (eComp2L src (own.map (·.2)) tgf test src1 vs1 tgf1 test1 ef))) :=
  ⟨ps_setLc2 hc hN hy hyl hsw hi.pe ok hv (fun s H C cl fp => hge s H C cl fp ▸ (hg s H C cl fp).pe) (fun s H C cl fp => hte s H C cl fp ▸ (ht s H C cl fp).pe) (fun s H C cl fp => hie1 s H C cl fp ▸ (hi1 s H C cl fp).pe) (fun s H C cl fp => hge1 s H C cl fp ▸ (hg1 s H C cl fp).pe) (fun s H C cl fp => hte1 s H C cl fp ▸ (ht1 s H C cl fp).pe) (fun s H C cl fp => hee s H C cl fp ▸ (he s H C cl fp).pe) hs hs1,
    ds_setL (df_lc2 hi.de (hg X.s_0 X.H_0 0 [] []).de (ht X.s_0 X.H_0 0 [] []).de (hi1 X.s_0 X.H_0 0 [] []).de (hg1 X.s_0 X.H_0 0 [] []).de (ht1 X.s_0 X.H_0 0 [] []).de (he X.s_0 X.H_0 0 [] []).de hix hix1 hv)⟩
end
/-! ### a slot's own list, in a def over the store -/
def yFrz (i : Nat) (g : En → SO) : En → SO := fun ρ => g (frz i ρ)
def yAppO (i : Nat) (f : En → SM D) : En → SO := fun ρ => sm (SM.lift (eOwn i ρ)) ρ fun ds => sm (f ρ) ρ fun d S => if ds.length < 16777216 then .nx (ρ.set i (.ow (ds ++ [d]))) S else .bad
section
variable {X : Cx} {E : WX} {st : Stmt} {t : TS} {g : En → SO} {e : Expr} {te : TE} {fe : En → SM D} {pos : Pos}
theorem ps2_frz (i : Nat) (h : PS2 X E st t g) : PS2 X E st t (yFrz i g) := by
  refine ⟨h.pe, fun I W F0 σ ρ S F H D o q => ?_⟩
  obtain ⟨W1, b1, s1⟩ := id o
  obtain ⟨F', s, o'⟩ := @Ok.freeze I X.K W1 F F H σ ρ (@Ok.self I X.K W1 F0 F H σ ρ b1) i
  exact h.de I W F0 σ (frz i ρ) S F' H D ⟨W1, @Ok.rebase I X.K W1 F0 F' H σ (frz i ρ) F H o' (@Ok.toOkB I X.K W1 F0 σ ρ F H b1), s1.keep o' s⟩ q
theorem ps2_appO (i : Nat) {x : Str} {px apos cpos : Pos} (he : PE2 X E e te fe) (hN : X.N[i]? = some x := by rfl) (hv : Vis X.env.scope x := by first | exact Or.inl rfl | exact Or.inr (Or.inl rfl) | exact Or.inr (Or.inr rfl))
    (hd : (x == ("__debug__" : Str)) = false := by decide) (hcd : (x == ("__classdict__" : Str)) = false := by decide)
    (hbase : attributeBase (.Name x px) "append" X.env (eval (.Name x px) X.env) = eval (.Name x px) X.env := by rfl)
    (hfew : ((backTo cpos (starEach [e] X.env)).all (fun x => !x.1) && (backToKw cpos (keywordEach [] X.env)).all (fun x => x.1.isSome)
      && decide (([e] : List Expr).length + ([] : List Keyword).length + (if ([] : List Keyword).isEmpty then 0 else 1) < 30)) = true := by rfl)
    (hline : (apos.endLine == cpos.line) = true := by rfl) (hst : starEach [e] X.env = (false, eval e X.env) :: starEach [] X.env := by rfl) (hplain : (backTo cpos (starEach [] X.env)).any (·.1) = false := by rfl)
    (hs : swapsWith (.Call (.Attribute (.Name x px) "append" apos) [e] [] cpos) none pos.line X.env = pure false := by rfl) :
    PS2 X E (.Expr (.Call (.Attribute (.Name x px) "append" apos) [e] [] cpos) pos) (tDrop (tBM X.K "list" rAppend (tVar i) (tCons te tNil))) (yAppO i fe) := by
  refine ⟨ps_expr (pe_bm PySem.F.plainAttrs_list PySem.F.slot_list_append PySem.F.type_list_append mt_append (pe_var hN hv hd hcd) (pa_cons he.pe pa_nil hst) hbase hfew hline hst hplain) hs, fun I W F0 σ ρ S F H D oo q => ?_⟩
  have q1 := sm_g (F := F) (σ := σ) q
  obtain ⟨ds, e1, g1⟩ := q1.of_lift
  obtain ⟨W1, b1, s1⟩ := id oo
  obtain ⟨p, vs, h1, h2, h3, r⟩ := @own_at I X.K W1 F0 F H σ ρ i ds b1 e1
  refine ⟨.ref p, h2, .inl ⟨rfl, vs, SqL.of h3⟩, ?_⟩
  refine he.de I W F0 σ ρ S F H _ oo ((sm_g g1).imp (fun d S2 g2 J v F2 H2 l2 o2 ss2 r2 => ?_) fun _ _ h => h)
  by_cases hl : ds.length < 16777216
  · rw [if_pos hl] at g2
    obtain ⟨W2, b2, st2⟩ := id o2
    obtain ⟨vs1, h4, r3⟩ := @own_on J X.K W2 F0 F2 H2 σ ρ i ds p b2 h1 h2
    refine ⟨p, vs1, v, rfl, rfl, h4, by rw [line_eq, @Rps.length J X.K F2 vs1 ds r3]; exact hl, ?_⟩
    exact g2 J σ F2 _ l2 ⟨W2, @Ok.setAt J X.K W2 F0 F2 H2 σ ρ b2 i p _ ds (ds ++ [d]) h1 h2 (@Rps.append J X.K F2 _ _ _ _ r3 (@Rps.one J X.K F2 _ _ r2)), st2⟩
  · rw [if_neg hl] at g2
    exact g2.elim
end
end DD

/-! SL31: defs, methods, classes by name; tests of several; the shapes that gen2 prints -/
namespace DD
open PySem PySem.Spec PyProof.Rows L2

/-! ### tests of several -/
structure PW2 (X : Cx) (E : WX) (e : Expr) (t : TT) (f : En → SM Bool) : Prop where
  pe : PW X e t
  de : DT2 X.K E t f
section
variable {X : Cx} {E : WX} {a b e : Expr} {rest : List Expr} {t u : TT} {f g : En → SM Bool} {pos p : Pos} {ta : TE} {fa : En → SM D} {x : Str} {es : List Expr} {tA : TA} {fA : En → SM (List D)}
theorem PW2.pt (h : PW2 X E e t f) : PT2 X E e t f := ⟨h.pe.pt, h.de⟩
theorem pw2_and1 (ha : PT2 X E a t f) : PW2 X E (.BoolOp .And [a] pos) t f := ⟨pw_and1 ha.pe, ha.de⟩
theorem pw2_or1 (ha : PT2 X E a t f) : PW2 X E (.BoolOp .Or [a] pos) t f := ⟨pw_or1 ha.pe, ha.de⟩
theorem pw2_and (ha : PT2 X E a t f) (hb : PW2 X E (.BoolOp .And (b :: rest) pos) u g) : PW2 X E (.BoolOp .And (a :: b :: rest) pos) (tAnd t u) (zAnd f g) := ⟨pw_and ha.pe hb.pe, dt2_and ha.de hb.de⟩
theorem pw2_or (ha : PT2 X E a t f) (hb : PW2 X E (.BoolOp .Or (b :: rest) pos) u g) : PW2 X E (.BoolOp .Or (a :: b :: rest) pos) (tOr t u) (zOr f g) := ⟨pw_or ha.pe hb.pe, dt2_or ha.de hb.de⟩
/-- a bool -/
theorem pt2_val (h : PE2 X E e ta fa) (he : ∀ whole, isTrue e X.env whole = (do let v ← whole; standAt e.pos; holding [v] (truthy v)) := by intro _; rfl) : PT2 X E e (tB ta) (zTst fa) := ⟨pt_val h.pe he, dt2_tst h.de⟩
/-- a type's call -/
theorem pe2_callT {T : String} {r : List V → Hp → VK → Prop} {g : List D → R D} (hc : CallR X (.type T) r) (hr : ∀ I : Iota, @DCl I X.K r g) (hm : X.mg x = none) (hv : bootBuiltins x = some (.type T)) (ha : PA2 X E (e :: es) tA fA) (hg : Gl X x := by rfl) (hn : x ≠ "__name__" := by decide) (hdb : (x == ("__debug__" : Str)) = false := by decide)
    (he : starEach (e :: es) X.env = (false, eval e X.env) :: starEach es X.env := by rfl) (hpl : (backTo pos (starEach es X.env)).any (·.1) = false := by rfl) : PE2 X E (.Call (.Name x p) (e :: es) [] pos) (tCB r tA) (zCall g fA) :=
  ⟨pe_callTy hc hg hm hv ha.pe hn hdb he hpl, de2_call hr ha.de⟩
theorem pe2_callB1 {id : String} {r : List V → Hp → VK → Prop} {g : List D → R D} (hc : CallR X (.builtin id) r) (hr : ∀ I : Iota, @DCl I X.K r g) (hm : X.mg x = none) (hv : bootBuiltins x = some (.builtin id)) (ha : PA2 X E (e :: es) tA fA) (hg : Gl X x := by rfl) (hn : x ≠ "__name__" := by decide) (hdb : (x == ("__debug__" : Str)) = false := by decide)
    (he : starEach (e :: es) X.env = (false, eval e X.env) :: starEach es X.env := by rfl) (hpl : (backTo pos (starEach es X.env)).any (·.1) = false := by rfl) : PE2 X E (.Call (.Name x p) (e :: es) [] pos) (tCB r tA) (zCall g fA) :=
  ⟨pe_callB hc hg hm hv ha.pe hn hdb he hpl, de2_call hr ha.de⟩
theorem pe2_bin {op : Operator} {r : L2.R2} {g : D → D → R D} {tb : TE} {fb : En → SM D} (ho : OpR X (binaryOp op) r) (hr : ∀ I : Iota, @DR2 I X.K r g) (ha : PE2 X E a ta fa) (hb : PE2 X E b tb fb) : PE2 X E (.BinOp a op b pos) (tOp r ta tb) (zBin g fa fb) := ⟨pe_op ho ha.pe hb.pe, de2_bin hr ha.de hb.de⟩
theorem pe2_cmp1 {op : CmpOp} {r : L2.R2} {g : D → D → R D} {tb : TE} {fb : En → SM D} (ho : OpR X (compareOp op) r) (hr : ∀ I : Iota, @DR2 I X.K r g) (ha : PE2 X E a ta fa) (hb : PE2 X E b tb fb) (hm : behindInMarks op b = false := by first | exact nomark _ | rfl | with_unfolding_all rfl) :
    PE2 X E (.Compare a [op] [b] pos) (tOp r ta tb) (zBin g fa fb) := ⟨pe_cmpR ho ha.pe hb.pe hm, de2_bin hr ha.de hb.de⟩
theorem pt2_cmp1 {op : CmpOp} {r : L2.R2} {g : D → D → R D} {tb : TE} {fb : En → SM D} (ho : OpR X (compareOp op) r) (hr : ∀ I : Iota, @DR2 I X.K r g) (ha : PE2 X E a ta fa) (hb : PE2 X E b tb fb) (hm : behindInMarks op b = false := by first | exact nomark _ | rfl | with_unfolding_all rfl) :
    PT2 X E (.Compare a [op] [b] pos) (tTest (tOp r ta tb)) (zTst (zBin g fa fb)) := ⟨pt_cmpR ho ha.pe hb.pe hm, dt2_tst (de2_bin hr ha.de hb.de)⟩
end
/-- a frozen list given to what takes lists -/
def dL1 (g : List D → R D) : List D → R D := d1 fun
  | .lst ds => g ds
  | _ => .bad
theorem dcl_of [Iota] {K : PySem.W.Frag} {r : List V → Hp → VK → Prop} {g : List D → R D} (h : DCo K r g) : DCl K r (dL1 g) := fun W F0 σ ρ F H vs ds d Q o rv e q => by
  unfold dL1 d1 at e
  split at e
  · obtain ⟨y, ys, rfl, r1, r2⟩ := rv.of_cons
    cases r2.of_nil
    dsimp only at e
    split at e
    · rename_i es
      obtain ⟨a, xs, rfl, ha, rx⟩ := rp_lst.mp r1
      exact h W F0 σ ρ F H a xs _ d Q o (o.sub _ _ ha) rx e q
    · cases e
  · cases e

/-! ### defs by name -/
def HasS (P : Program) (w : World) (K : PySem.W.Frag) (mg : Str → Option Value) (base : Heap) (k : Nat) (x : Str) (ps : List Str) (m : List D → SM D) : Prop :=
  ∃ f fd, FnOk P w K mg base (L2.CX P w) k f fd ps (spS K m) ∧ mg x = some (.ref f) ∧ PySem.W.keepIn K (.ref f) = true ∧ Binds K fd ps []
def HasD (P : Program) (w : World) (K : PySem.W.Frag) (mg : Str → Option Value) (base : Heap) (k : Nat) (x : Str) (ps : List Str) (m : List D → R D) : Prop :=
  ∃ f fd, (∀ I : Iota, FnOk P w K mg base CX0 k f fd ps (@spD I K m)) ∧ mg x = some (.ref f) ∧ PySem.W.keepIn K (.ref f) = true ∧ Binds K fd ps []
/-- a method as its class has it -/
def AtM (K : PySem.W.Frag) (C : Addr) (m qual : Str) (st : Stmt) (ps : List Str) : Prop := ∃ f fd, L2.Fun K m qual st f fd ∧ Meth K C m f ∧ Binds K fd ps []
def HasMk (P : Program) (w : World) (K : PySem.W.Frag) (mg : Str → Option Value) (base : Heap) (k : Nat) (C : Addr) (m : Str) (mm : List D → SM D) : Prop :=
  Cls K C ∧ ∃ (f : Addr) (fd : FuncData) (ps : List Str), Meth K C m f ∧ FnOk P w K mg base (L2.CX P w) k f fd ps (spS K mm) ∧ Binds K fd ps []
/-- the class at C, its __init__ -/
def AtI (K : PySem.W.Frag) (mg : Str → Option Value) (x : Str) (C : Addr) (qual : Str) (st : Stmt) (ps : List Str) : Prop := mg x = some (.ref C) ∧ ∃ f fd, L2.Fun K "__init__" qual st f fd ∧ Mk K C f ∧ Binds K fd ps []
def HasI (P : Program) (w : World) (K : PySem.W.Frag) (mg : Str → Option Value) (base : Heap) (k : Nat) (x : Str) (C : Addr) (mm : List D → SM D) : Prop :=
  mg x = some (.ref C) ∧ ∃ (f : Addr) (fd : FuncData) (ps : List Str), Mk K C f ∧ FnOk P w K mg base (L2.CX P w) k f fd ps (spS K mm) ∧ Binds K fd ps []
/-- an exception's class -/
def HasE (P : Program) (w : World) (K : PySem.W.Frag) (mg : Str → Option Value) (base : Heap) (k : Nat) (x : Str) (C : Addr) (ns : List Str) (g : List D → R Unit) : Prop :=
  mg x = some (.ref C) ∧ OexC K C ∧ ∃ (f : Addr) (fd : FuncData) (ps : List Str), PySem.W.findIn K (.ref C) "__init__" = some (some (.ref f)) ∧ PySem.W.typeIn K (.ref f) = some (.type "function") ∧ FnOk P w K mg base CX0 k f fd ps (spE K C ns g) ∧ Binds K fd ps []
section
variable {P : Program} {w : World} {K : PySem.W.Frag} {mg : Str → Option Value} {base : Heap}
theorem HasD.has {x : Str} {ps : List Str} {k : Nat} {m : List D → R D} (h : HasD P w K mg base k x ps m) (I : Iota) : @Has I P w K mg base k x ps m := by
  obtain ⟨f, fd, G, r⟩ := h
  exact ⟨f, fd, G I, r⟩
theorem At.hasD {x : Str} {st : Stmt} {N ps : List Str} {k : Nat} {g : En → R Out} (A : At K mg x st ps) (S : FnScope N ps (defScope st))
    (hbody : ∀ (I : Iota) (f : Addr) (cdv : Value) (A : Around) (outer : List Env) (s : Shared) (H : Hp) (E : XK), Room k (A.deeper (envOfC x (defScope st) s.heap.objs.size f cdv)) →
      ∃ t, @PSsD I (cxOf CX0 P w K mg base N x (defScope st) f cdv A outer s H E).nox (defBody st) t g) : HasD P w K mg base (k + 1) x ps (runD ps.length (N.length - ps.length) g) := by
  obtain ⟨f, fd, F, hm, b⟩ := A
  exact ⟨f, fd, fun I => @Fun.okD I _ _ _ _ _ _ _ _ _ _ _ _ _ _ F S fun cdv A outer s H E hr => hbody I f cdv A outer s H E hr, hm, F.kp, b⟩
theorem At.noneD {x : Str} {st : Stmt} {ps : List Str} {k : Nat} (A : At K mg x st ps) : HasD P w K mg base k x ps (fun _ => .bad) := by
  obtain ⟨f, fd, F, hm, b⟩ := A
  have no : ∀ I vs H Q E, ¬ @spD I K (fun _ => .bad) vs H Q E := fun I vs H Q E h => by
    obtain ⟨_, _, _, _, _, e, _⟩ := h
    cases e
  exact ⟨f, fd, fun I => ⟨fun vs H Q E h => absurd h (no I vs H Q E), fun A outer s H args us vs Q E _ _ _ _ h => absurd h (no I vs H Q E)⟩, hm, F.kp, b⟩
theorem At.hasS {x : Str} {st : Stmt} {N ps : List Str} {k : Nat} {g : En → SO} (A : At K mg x st ps) (S : FnScope N ps (defScope st))
    (hbody : ∀ (f : Addr) (cdv : Value) (A : Around) (outer : List Env) (s : Shared) (H : Hp) (E : XK), Room k (A.deeper (envOfC x (defScope st) s.heap.objs.size f cdv)) →
      ∃ t, PSs2 (cxOf (L2.CX P w) P w K mg base N x (defScope st) f cdv A outer s H E) (fun cls d _ H' => E cls d H') (defBody st) t g) : HasS P w K mg base (k + 1) x ps (runS ps.length (N.length - ps.length) g) := by
  obtain ⟨f, fd, F, hm, b⟩ := A
  exact ⟨f, fd, Fun.okS F S fun cdv A outer s H E hr => hbody f cdv A outer s H E hr, hm, F.kp, b⟩
theorem AtM.hasM {C : Addr} {m qual : Str} {st : Stmt} {N ps : List Str} {k : Nat} {g : En → SO} (c : Cls K C) (A : AtM K C m qual st ps) (S : FnScope N ps (defScope st))
    (hbody : ∀ (f : Addr) (cdv : Value) (A : Around) (outer : List Env) (s : Shared) (H : Hp) (E : XK), Room k (A.deeper (envOfC qual (defScope st) s.heap.objs.size f cdv)) →
      ∃ t, PSs2 (cxOf (L2.CX P w) P w K mg base N qual (defScope st) f cdv A outer s H E) (fun cls d _ H' => E cls d H') (defBody st) t g) : HasMk P w K mg base (k + 1) C m (runS ps.length (N.length - ps.length) g) := by
  obtain ⟨f, fd, F, hm, b⟩ := A
  exact ⟨c, f, fd, ps, hm, Fun.okS F S fun cdv A outer s H E hr => hbody f cdv A outer s H E hr, b⟩
theorem AtI.hasI {C : Addr} {x qual : Str} {st : Stmt} {N ps : List Str} {k : Nat} {g : En → SO} (A : AtI K mg x C qual st ps) (S : FnScope N ps (defScope st))
    (hbody : ∀ (f : Addr) (cdv : Value) (A : Around) (outer : List Env) (s : Shared) (H : Hp) (E : XK), Room k (A.deeper (envOfC qual (defScope st) s.heap.objs.size f cdv)) →
      ∃ t, PSs2 (cxOf (L2.CX P w) P w K mg base N qual (defScope st) f cdv A outer s H E) (fun cls d _ H' => E cls d H') (defBody st) t g) : HasI P w K mg base (k + 1) x C (runS ps.length (N.length - ps.length) g) := by
  obtain ⟨hx, f, fd, F, hm, b⟩ := A
  exact ⟨hx, f, fd, ps, hm, Fun.okS F S fun cdv A outer s H E hr => hbody f cdv A outer s H E hr, b⟩
end
/-- what a def's body may let out -/
theorem tkS {P : Program} {w : World} {K : PySem.W.Frag} {mg : Str → Option Value} {base : Heap} {N : List Str} {qual : Str} {scope : Scope} {f : Addr} {cd : Value} {A : Around} {outer : List Env} {s : Shared} {H : Hp} {E : XK} :
    Takes (cxOf (L2.CX P w) P w K mg base N qual scope f cd A outer s H E) (fun cls d _ H' => E cls d H') := takes_of rfl rfl rfl rfl
section
variable {X : Cx} {W : WX} {j k : Nat} {ps : List Str} {x : Str} {p pos : Pos} {e o : Expr} {es : List Expr} {t : TA} {fa : En → SM (List D)}
theorem pe2_callH {m : List D → SM D} (h : HasS X.prog X.w X.K X.mg X.base j x ps m) (tk : Takes X W) (hr : Room k X.A) (ha : PA2 X W (e :: es) t fa) (hj : j ≤ k := by decide) (hg : Gl X x := by rfl)
    (hdb : (x == ("__debug__" : Str)) = false := by decide) (he : starEach (e :: es) X.env = (false, eval e X.env) :: starEach es X.env := by rfl) (hpl : (backTo pos (starEach es X.env)).any (·.1) = false := by rfl) :
    PE2 X W (.Call (.Name x p) (e :: es) [] pos) (tCallS (spS X.K m) (WE W) t) (fun ρ => fa ρ >>= m) := by
  obtain ⟨f, fd, G, hm, hk, hb⟩ := h
  exact pe2_call G tk (hr.mono hj) hm hk hb ha hg hdb he hpl
/-- a def of the data layer, its arguments read over the store -/
def spDA (K : PySem.W.Frag) (m : List D → R D) : Sp := fun vs H Q E => ∃ I : Iota, @spD I K m vs H Q E
theorem pe2_callD {m : List D → R D} (h : HasD X.prog X.w X.K X.mg X.base j x ps m) (hr : Room k X.A) (ha : PA2 X W (e :: es) t fa) (hj : j ≤ k := by decide) (hg : Gl X x := by rfl)
    (hdb : (x == ("__debug__" : Str)) = false := by decide) (he : starEach (e :: es) X.env = (false, eval e X.env) :: starEach es X.env := by rfl) (hpl : (backTo pos (starEach es X.env)).any (·.1) = false := by rfl) :
    PE2 X W (.Call (.Name x p) (e :: es) [] pos) (tCall (spDA X.K m) [] E0 t) (zCall m fa) := by
  obtain ⟨f, fd, G, hm, hk, hb⟩ := h
  have G' : FnOk X.prog X.w X.K X.mg X.base CX0 k f fd ps (spDA X.K m) := ⟨fun vs H Q E ⟨I, z⟩ => (G I).len vs H Q E z, fun A outer s H args us vs Q E r1 r2 r3 r4 ⟨I, z⟩ => ((G I).mono hj).run A outer s H args us vs Q E r1 r2 r3 r4 z⟩
  refine ⟨pe_call G' hr hg hm hk hb .nil pass0 ha.pe hdb he hpl, fun I W1 F0 σ ρ S F H Q o g0 => ?_⟩
  refine ha.de I W1 F0 σ ρ S F H _ o ((G2.of_bind g0).imp (fun ds S1 g1 J vs F1 H1 l1 o1 s1 r1 => ?_) fun _ _ h => h)
  obtain ⟨V, b1, st⟩ := o1
  obtain ⟨d, e1, q⟩ := g1.of_lift
  show spDA X.K m (vs ++ []) H1 Q E0
  rw [List.append_nil]
  have o1' := @Ok.self J X.K V F0 F1 H1 σ ρ b1
  exact ⟨J, F1, ds, d, b1.sub, r1, e1, fun v F' H' a b c n r => q J v F' H' l1 (Ok2.after b1 st (@Ok.step J X.K V F1 F1 F' H1 H' σ ρ o1' a c b n) a) (s1.trans a) r⟩
theorem pe2_makeH {C : Addr} {m : List D → SM D} (h : HasI X.prog X.w X.K X.mg X.base j x C m) (tk : Takes X W) (hr : Room (k + 1) X.A) (ha : PA2 X W (e :: es) t fa) (hj : j ≤ k := by decide) (hg : Gl X x := by rfl)
    (hdb : (x == ("__debug__" : Str)) = false := by decide) (he : starEach (e :: es) X.env = (false, eval e X.env) :: starEach es X.env := by rfl) (hpl : (backTo pos (starEach es X.env)).any (·.1) = false := by rfl) :
    PE2 X W (.Call (.Name x p) (e :: es) [] pos) (tMakeX C (spS X.K m) (WE W) t) (zMake C m fa) := by
  obtain ⟨hm, f, fd, ps, M, G, hb⟩ := h
  exact ⟨pe_makeX M (G.mono hj) hr hm hb tk ha.pe hg hdb he hpl, de2_make ha.de⟩
theorem HasMk.hasM {C : Addr} {m : Str} {mm : List D → SM D} (h : HasMk X.prog X.w X.K X.mg X.base j C m mm) (hj : j ≤ k) : HasM X k C m mm := by
  obtain ⟨c, f, fd, ps, hm, G, b⟩ := h
  exact ⟨c, f, fd, ps, hm, G.mono hj, b⟩
theorem ps2_raiseH {C : Addr} {ns : List Str} {g : List D → R Unit} {pos' : Pos} (h : HasE X.prog X.w X.K X.mg X.base j x C ns g) (hr : Room (k + 1) X.A) (hc : X.calm = true) (tk : Takes X W) (ha : PA2 X W (e :: es) t fa) (hj : j ≤ k := by decide) (hg : Gl X x := by rfl)
    (hdb : (x == ("__debug__" : Str)) = false := by decide) (he : starEach (e :: es) X.env = (false, eval e X.env) :: starEach es X.env := by rfl) (hpl : (backTo pos (starEach es X.env)).any (·.1) = false := by rfl) :
    PS2 X W (.Raise (some (.Call (.Name x p) (e :: es) [] pos)) none pos') (fun _ σ H => tMkO C (spE X.K C ns g) [] t σ H fun cls d H' => W cls d σ H') (yRaise C ns g fa) := by
  obtain ⟨hm, T, f, fd, ps, iC, tI, G, hb⟩ := h
  exact ps2_raise T iC tI (G.mono hj) hr hb hc tk hm ha hg hdb he hpl
end
end DD

/-! SL32: small rules that gen2 prints -/
namespace DD
open PySem PySem.Spec PyProof.Rows L2
def clsBody : Stmt → List Stmt
  | .ClassDef _ _ _ body _ _ _ _ _ _ _ => body
  | _ => []
section
variable [Iota]
def dMax3 : List D → R D
  | [.int a, .int b, .int c] => .ok (.int (if (if a < b then b else a) < c then c else (if a < b then b else a)))
  | _ => .bad
def dMin3 : List D → R D
  | [.int a, .int b, .int c] => .ok (.int (if c < (if b < a then b else a) then c else (if b < a then b else a)))
  | _ => .bad
theorem nu_lt (a b : Int) : nuLt (.int a) (.int b) = some (decide (a < b)) := rfl
theorem nu_max2 (a b : Int) : nuMax2 (.int a) (.int b) = some (.int (if a < b then b else a)) := by
  unfold nuMax2
  rw [nu_lt]
  by_cases h : a < b
  · simp only [h, decide_true, Option.map_some, if_true]
  · simp only [h, decide_false, Option.map_some, if_false, Bool.false_eq_true]
theorem nu_min2 (a b : Int) : nuMin2 (.int a) (.int b) = some (.int (if b < a then b else a)) := by
  unfold nuMin2
  rw [nu_lt]
  by_cases h : b < a
  · simp only [h, decide_true, Option.map_some, if_true]
  · simp only [h, decide_false, Option.map_some, if_false, Bool.false_eq_true]
theorem dc_max3 {K : PySem.W.Frag} : DCl K (rNuC3 nuMax3) dMax3 := fun W F0 σ ρ F H vs ds d Q o rv e q => by
  unfold dMax3 at e
  split at e
  · rename_i a b c
    cases e
    obtain ⟨y, ys, rfl, r1, r2⟩ := rv.of_cons
    obtain ⟨z, zs, rfl, r3, r4⟩ := r2.of_cons
    obtain ⟨u, us, rfl, r5, r6⟩ := r4.of_cons
    cases r6.of_nil
    cases rp_int.mp r1; cases rp_int.mp r3; cases rp_int.mp r5
    refine ⟨_, _, _, _, rfl, ?_, q _ F H o (Same.refl _) (rp_int.mpr rfl)⟩
    unfold nuMax3
    rw [nu_max2]
    exact nu_max2 _ _
  · cases e
theorem dc_min3 {K : PySem.W.Frag} : DCl K (rNuC3 nuMin3) dMin3 := fun W F0 σ ρ F H vs ds d Q o rv e q => by
  unfold dMin3 at e
  split at e
  · rename_i a b c
    cases e
    obtain ⟨y, ys, rfl, r1, r2⟩ := rv.of_cons
    obtain ⟨z, zs, rfl, r3, r4⟩ := r2.of_cons
    obtain ⟨u, us, rfl, r5, r6⟩ := r4.of_cons
    cases r6.of_nil
    cases rp_int.mp r1; cases rp_int.mp r3; cases rp_int.mp r5
    refine ⟨_, _, _, _, rfl, ?_, q _ F H o (Same.refl _) (rp_int.mpr rfl)⟩
    unfold nuMin3
    rw [nu_min2]
    exact nu_min2 _ _
  · cases e
section
variable {X : Cx} {x : Str} {pos : Pos}
theorem pd_cls {C : Addr} (hm : X.mg x = some (.ref C)) (hg : Gl X x := by rfl) (h : (x == ("__debug__" : Str)) = false := by decide) : PD X (.Name x pos) (tC (.ref C)) (eC (.clr C)) :=
  pd_glob (v := .ref C) (d := .clr C) hm rfl (fun _ => rp_clr.mpr rfl) hg h
theorem pd_bty {T : String} (hm : X.mg x = none) (hv : bootBuiltins x = some (.type T)) (hg : Gl X x := by rfl) (hn : x ≠ "__name__" := by decide) (hdb : (x == ("__debug__" : Str)) = false := by decide) : PD X (.Name x pos) (tC (.ty T)) (eC (.ty T)) :=
  ⟨pe_bltn (v := .ty T) hg hm hv rfl hn hdb, de_c fun _ => rp_ty.mpr rfl⟩
end
end
abbrev zL {α : Type} (f : En → R α) : En → SM α := fun ρ => SM.lift (f ρ)
theorem of_zL {f : En → R D} {ρ : En} {S S' : Store} {d d0 : D} (e : f ρ = .ok d0) (h : SM.lift (f ρ) S = .ok d S') : d = d0 ∧ S' = S := by
  rw [e] at h
  cases h
  exact ⟨rfl, rfl⟩
theorem all_cons {α : Type} {P : α → Prop} {a : α} {l : List α} (h : P a) (r : ∀ x ∈ l, P x) : ∀ x ∈ a :: l, P x := fun x hx => by
  rcases List.mem_cons.mp hx with e | e
  · subst e; exact h
  · exact r x e
section
variable {X : Cx} {E : WX} {a b : Expr} {ta tb : TE} {fa fb : En → SM D} {pos : Pos}
theorem pe2_ixD (hu : X.A.units + 1 < cLine) (ha : PE2 X E a ta fa) (hb : PE2 X E b tb fb) (hs : PlainIx b := by exact fun _ _ => rfl) : PE2 X E (.Subscript a b pos) (tOp (rIx2 X.K) ta tb) (zOp ixD fa fb) := ⟨pe_ix (ix_all hu) ha.pe hb.pe hs, de2_op dq2_ixD ha.de hb.de⟩
end
/-- {x: d[x] for x in d}, d a dict of the store by tuples -/
def eCopyT (i j : Nat) : En → SM D := fun ρ S => match ρ[j]?, decide (i < ρ.length) with
  | some (.fz (.ref n)), true => (match S[n]? with
    | some (.dT ks ds) => (match copyG ks ds ks [] [] with
      | .ok (ks2, ds2) => .ok (.ref S.length) (S ++ [.dT ks2 ds2])
      | _ => .bad)
    | _ => .bad)
  | _, _ => .bad
section
variable {X : Cx} {E : WX} {x y : Str} {p1 p2 p3 p4 p5 p6 pos : Pos} {scope : Scope} {i j : Nat}
theorem pe2_copyT (hu : X.A.units + 1 < cLine) (hc : X.calm = true) (hN : X.N.Nodup) (ok : BlkOk X.N X.env.scope scope [(x, i)]) (hji : j ≠ i)
    (hk : ∀ (s : Shared) (H : Hp) (C : Addr) (cl : List (Str × Addr)) (fp : List Addr), PE (X.blk s H scope (compEnvC scope cl C X.env) fp) (.Name x p1) (tVar i))
    (hv : ∀ (s : Shared) (H : Hp) (C : Addr) (cl : List (Str × Addr)) (fp : List Addr), PE (X.blk s H scope (compEnvC scope cl C X.env) fp) (.Subscript (.Name y p2) (.Name x p3) p4) (tDGet (tVar j) (tVar i)))
    (hg : ∀ (s : Shared) (H : Hp) (C : Addr) (cl : List (Str × Addr)) (fp : List Addr), PG (X.blk s H scope (compEnvC scope cl C X.env) fp) (.Name x p6) (gName i))
    (hy : PE X (.Name y p5) (tVar j)) :
    PE2 X E (.DictComp (.Name x p1) (.Subscript (.Name y p2) (.Name x p3) p4) [⟨.Name x p6, .Name y p5, [], 0⟩] scope pos) (tLockE (tDcG (.dT []) (iKeys (tVar j)) (gName i) tYes (tVar i) (tDGet (tVar j) (tVar i)) [i])) (eCopyT i j) := by
  refine ⟨pe_lock (pe_dcG dt_empty hu hc hN (pi_keys hy) ok hg (fun _ _ _ _ _ => pts_nil) hk hv), fun I W F0 σ ρ S F H Q o g0 => ?_⟩
  unfold eCopyT at g0
  split at g0
  · rename_i n h1 h2
    split at g0
    · rename_i ks ds hS
      split at g0
      · rename_i ks2 ds2 hcg
        exact de2_copyT hji I W F0 σ ρ S F H Q o n ks ds ks2 ds2 h1 (of_decide_eq_true h2) hS hcg g0
      · exact g0.elim
    · exact g0.elim
  · exact g0.elim
end
/-! a def of the data layer called from the data layer: the reading knows no store -/
section
variable {X : Cx} {j k : Nat} {ps : List Str} {m : List D → R D} {x : Str} {p pos : Pos} {e : Expr} {es : List Expr} {t : TA} {fa : En → R (List D)}
theorem pd_callD [I : Iota] (h : HasD X.prog X.w X.K X.mg X.base j x ps m) (hr : Room k X.A) (ha : PAD X (e :: es) t fa) (hj : j ≤ k := by decide) (hg : Gl X x := by rfl)
    (hdb : (x == ("__debug__" : Str)) = false := by decide) (he : starEach (e :: es) X.env = (false, eval e X.env) :: starEach es X.env := by rfl) (hpl : (backTo pos (starEach es X.env)).any (·.1) = false := by rfl) :
    PD X (.Call (.Name x p) (e :: es) [] pos) (tCall (spDA X.K m) [] E0 t) (eCall m fa) := by
  obtain ⟨f, fd, G, hm, hk, hb⟩ := h
  have G' : FnOk X.prog X.w X.K X.mg X.base CX0 k f fd ps (spDA X.K m) := ⟨fun vs H Q E ⟨I, z⟩ => (G I).len vs H Q E z, fun A outer s H args us vs Q E r1 r2 r3 r4 ⟨I, z⟩ => ((G I).mono hj).run A outer s H args us vs Q E r1 r2 r3 r4 z⟩
  refine ⟨pe_call G' hr hg hm hk hb .nil pass0 ha.pe hdb he hpl, fun W F0 σ ρ F H d Q o e q => ?_⟩
  obtain ⟨ds, e1, e2⟩ := R.of_bind e
  refine ha.de W F0 σ ρ F H ds _ o e1 fun vs F1 H1 o1 s1 r1 => ?_
  show spDA X.K m (vs ++ []) H1 Q E0
  rw [List.append_nil]
  exact ⟨I, F1, ds, d, o1.sub, r1, e2, fun v F' H' a b c n r => q v F' H' (o1.step a c b n) (s1.trans a) r⟩
end
/-! the shapes, named -/
def zXf (Cs : List Addr) (f : Str) (fe : En → SM D) : En → SM D := fun ρ => fe ρ >>= xfS Cs f
def zFld (Cs : List Addr) (f : Str) (fe : En → SM D) : En → SM D := fun ρ => fe ρ >>= fldS Cs f
def zIsE (yes no : List Addr) (fa fc : En → SM D) : En → SM D := fun ρ => fa ρ >>= fun x => fc ρ >>= fun _ => (match x with | .exn _ _ _ => isO yes no x | _ => fun _ => .bad)
def zIsI (yes no : List Addr) (fa fc : En → SM D) : En → SM D := fun ρ => fa ρ >>= fun x => fc ρ >>= fun _ => (match x with | .ref _ => isO yes no x | _ => fun _ => .bad)
def zCallS (m : List D → SM D) (fa : En → SM (List D)) : En → SM D := fun ρ => fa ρ >>= m
def zKeys (fe : En → SM D) : En → SM D := fun ρ => fe ρ >>= keysS
def zItems (fe : En → SM D) : En → SM (List D) := fun ρ => fe ρ >>= itemsS
section
variable {X : Cx} {E : WX} {a c e tg l : Expr} {es : List Expr} {ta tc te tl : TE} {t : TA} {fa fc fe f0 : En → SM D} {fA : En → SM (List D)} {c0 : D} {yes no Cs : List Addr} {p pos : Pos} {f x : Str} {j k : Nat} {ps : List Str}
theorem p2_xf (Cs : List Addr) (hC : ∀ C ∈ Cs, XfC X.K C ∧ PySem.W.findIn X.K (.ref C) f = some none) (he : PE2 X E e te fe) (hb : attributeBase e f X.env (eval e X.env) = eval e X.env := by rfl) : PE2 X E (.Attribute e f pos) (tXe X.K f te) (zXf Cs f fe) := pe2_xf hC he hb
theorem p2_fld (Cs : List Addr) (hC : ∀ C ∈ Cs, Cls X.K C ∧ NoAttr X.K C f) (he : PE2 X E e te fe) (hb : attributeBase e f X.env (eval e X.env) = eval e X.env := by rfl) : PE2 X E (.Attribute e f pos) (tFld X.K te f) (zFld Cs f fe) := pe2_fld hC he hb
theorem p2_isE (c0 : D) (yes no : List Addr) (hm : X.mg "isinstance" = none) (ha : PE2 X E a ta fa) (hc : PE2 X E c tc fc) (hfc : ∀ ρ S d S', fc ρ S = .ok d S' → d = c0)
    (hy : ∀ C ∈ yes, ExcC X.K C ∧ kitD X.K (.ref C) c0 = some true) (hn : ∀ C ∈ no, ExcC X.K C ∧ kitD X.K (.ref C) c0 = some false) (hg : Gl X "isinstance" := by rfl)
    (he : starEach [a, c] X.env = (false, eval a X.env) :: starEach [c] X.env := by rfl) (he2 : starEach [c] X.env = (false, eval c X.env) :: starEach [] X.env := by rfl) (hpl : (backTo pos (starEach [c] X.env)).any (·.1) = false := by rfl) :
    PE2 X E (.Call (.Name "isinstance" p) [a, c] [] pos) (tCB (rIsO X.K) (tCons ta (tCons tc tNil))) (zIsE yes no fa fc) := pe2_isE hm ha hc hfc hy hn hg he he2 hpl
theorem p2_isI (c0 : D) (yes no : List Addr) (hm : X.mg "isinstance" = none) (ha : PE2 X E a ta fa) (hc : PE2 X E c tc fc) (hfc : ∀ ρ S d S', fc ρ S = .ok d S' → d = c0 ∧ S' = S)
    (hy : ∀ C ∈ yes, InsC X.K C ∧ kitD X.K (.ref C) c0 = some true) (hn : ∀ C ∈ no, InsC X.K C ∧ kitD X.K (.ref C) c0 = some false) (hg : Gl X "isinstance" := by rfl)
    (he : starEach [a, c] X.env = (false, eval a X.env) :: starEach [c] X.env := by rfl) (he2 : starEach [c] X.env = (false, eval c X.env) :: starEach [] X.env := by rfl) (hpl : (backTo pos (starEach [c] X.env)).any (·.1) = false := by rfl) :
    PE2 X E (.Call (.Name "isinstance" p) [a, c] [] pos) (tCB (rIsO X.K) (tCons ta (tCons tc tNil))) (zIsI yes no fa fc) := pe2_isI hm ha hc hfc hy hn hg he he2 hpl
theorem p2_call {m : List D → SM D} (h : HasS X.prog X.w X.K X.mg X.base j x ps m) (tk : Takes X E) (hr : Room k X.A) (ha : PA2 X E (e :: es) t fA) (hj : j ≤ k := by decide) (hg : Gl X x := by rfl)
    (hdb : (x == ("__debug__" : Str)) = false := by decide) (he : starEach (e :: es) X.env = (false, eval e X.env) :: starEach es X.env := by rfl) (hpl : (backTo pos (starEach es X.env)).any (·.1) = false := by rfl) :
    PE2 X E (.Call (.Name x p) (e :: es) [] pos) (tCallS (spS X.K m) (WE E) t) (zCallS m fA) := pe2_callH h tk hr ha hj hg hdb he hpl
theorem p2_list (hc : X.calm = true) (hm : X.mg "list" = none) (he : PE2 X E e te fe) (hg : Gl X "list" := by rfl)
    (hst : starEach [e] X.env = (false, eval e X.env) :: starEach [] X.env := by rfl) (hpl : (backTo pos (starEach [] X.env)).any (·.1) = false := by rfl) :
    PE2 X E (.Call (.Name "list" p) [e] [] pos) (tCB rLstD (tCons te tNil)) (zKeys fe) := pe2_listD hc hm he hg hst hpl
theorem p2_any (h : PE2 X E l tl f0) : PI2 X E tg l (iAny X.K tl) (zItems f0) := pi2_any h
end
/-! whatever the reading: the plain function's own promise -/
theorem pss2_tY {X : Cx} {E : WX} {st : List Stmt} {t : TS} {g : En → SO} (h : PSs2 X E st t g) : PSs2 X E st (tY X.K E g) g := by
  refine ⟨⟨fun pins s σ H D J ht => ?_⟩, tY_de⟩
  obtain ⟨I, W, F0, ρ, S, F, o, q⟩ := ht
  exact h.pe.run pins s σ H D J (h.de I W F0 σ ρ S F H D o q)
theorem suite_of {X : Cx} {st : List Stmt} {g : En → SO} (h : ∀ (a : Addr) (pn : List (Addr × Obj)), ∃ t, PSs2 (X.suite a pn) EF st t g) : ∀ (a : Addr) (pn : List (Addr × Obj)), PSs2 (X.suite a pn) EF st (tY X.K EF g) g := fun a pn => by
  obtain ⟨t, z⟩ := h a pn
  exact pss2_tY z
theorem try_of {X : Cx} {st : List Stmt} {g : En → SO} (h : ∀ (W : WX) (pn : List (Addr × Obj)) (xe : Value → Shared → Prop), Takes (X.tr pn xe) W → PassesOwn (model X.prog X.w) X.A X.env xe → ∃ t, PSs2 (X.tr pn xe) W st t g) :
    ∀ (W : WX) (pn : List (Addr × Obj)) (xe : Value → Shared → Prop), Takes (X.tr pn xe) W → PassesOwn (model X.prog X.w) X.A X.env xe → PSs2 (X.tr pn xe) W st (tY X.K W g) g := fun W pn xe tk hp => by
  obtain ⟨t, z⟩ := h W pn xe tk hp
  exact pss2_tY z
end DD

/-! SL33: own exceptions from the written part; the law's walk -/
namespace DD
open PySem PySem.Spec PyProof.Rows L2
/-- what the written part tells of the __init__ of an own exception -/
structure AtE (P : Program) (K : PySem.W.Frag) (mg : Str → Option Value) (x : Str) (C : Addr) (qual : Str) (st : Stmt) (ps : List Str) : Prop where
  hm : mg x = some (.ref C)
  oex : OexC K C
  ex : ∃ (f cc cda : Addr) (oc : Value) (od an : Option Addr) (osl : Array (Option Value)) (kV doc pm ct : Value),
    PySem.W.findIn K (.ref C) "__init__" = some (some (.ref f)) ∧ PySem.W.typeIn K (.ref f) = some (.type "function") ∧
    K.lookup f = some ⟨oc, od, .func (PySem.W.ksFn "__init__" qual (defArgs st) (defBody st) (defScope st) .none kV doc pm an (.ref cda) ct cc), osl⟩ ∧
    PySem.W.codeIn K (.ref cda) qual = true ∧ SupC P K mg C cc cda ∧ Binds K (PySem.W.ksFn "__init__" qual (defArgs st) (defBody st) (defScope st) .none kV doc pm an (.ref cda) ct cc) ps []
section
variable {P : Program} {w : World} {K : PySem.W.Frag} {mg : Str → Option Value} {base : Heap}
theorem hasE_of {x : Str} {C : Addr} {qual : Str} {st : Stmt} {ps ns : List Str} {x0 : Str} {e : Expr} {rest : List Stmt} {p0 p1 ap cp ep : Pos} {fe : En → R D} (A : AtE P K mg x C qual st ps)
    (hst : defBody st = .Expr (.Call (.Attribute (.Call (.Name "super" p0) [] [] p1) "__init__" ap) [e] [] cp) ep :: rest) (hps : ps = x0 :: ns) (S : ScopeI ps (defScope st)) (hself : Self (defArgs st) x0)
    (pl : Addr → Addr → Addr → Addr → Sem Bool)
    (hev : ∀ (f cda cc L : Addr), eval (.Call (.Attribute (.Call (.Name "super" p0) [] [] p1) "__init__" ap) [e] [] cp) (PySem.W.ksEnv qual (defScope st) L f (.ref cda) cc) = (do
      let ov ← attributeBase (.Call (.Name "super" p0) [] [] p1) "__init__" (PySem.W.ksEnv qual (defScope st) L f (.ref cda) cc) (eval (.Call (.Name "super" p0) [] [] p1) (PySem.W.ksEnv qual (defScope st) L f (.ref cda) cc))
      standAt ap.atName
      let (g, first) ← holding [ov] (getMethod ov "__init__" (pl f cda cc L))
      callWith cp g first (backTo cp (starEach [e] (PySem.W.ksEnv qual (defScope st) L f (.ref cda) cc))) []))
    (hint : ∀ (f cda cc L : Addr), interactive (PySem.W.ksEnv qual (defScope st) L f (.ref cda) cc) = false)
    (hsw : ∀ (f cda cc L : Addr), swapsWith (.Call (.Attribute (.Call (.Name "super" p0) [] [] p1) "__init__" ap) [e] [] cp) none ep.line (PySem.W.ksEnv qual (defScope st) L f (.ref cda) cc) = pure false)
    (hse : ∀ (f cda cc L : Addr), starEach [e] (PySem.W.ksEnv qual (defScope st) L f (.ref cda) cc) = (false, eval e (PySem.W.ksEnv qual (defScope st) L f (.ref cda) cc)) :: starEach [] (PySem.W.ksEnv qual (defScope st) L f (.ref cda) cc))
    (hbody : ∀ (f cda cc : Addr) (A : Around) (outer : List Env) (s : Shared) (H : Hp) (E : XK), ∃ te t, (∀ I : Iota, @PD I (cxI P w K mg base ps qual (defScope st) f cda cc A outer s H E) e te fe) ∧ PSs (cxI P w K mg base ps qual (defScope st) f cda cc A outer s H E) rest t ∧
      ∀ (Q : VK) (a : Addr) (ws : List V) (H' : Hp), OexC K C → ws.length = ns.length → H' a = some (exo a C none) → (∀ dx, H' dx = none → Q .non (upd (upd H' dx (exd dx (ns.zip ws).reverse)) a (exo a C (some dx)))) → t { nx := fun _ H' => Q .non H', rt := Q } ((V.ref a :: ws).map some) H') :
    HasE P w K mg base 1 x C ns (gE fe) := by
  obtain ⟨hm, T, f, cc, cda, oc, od, an, osl, kV, doc, pm, ct, i, ty, lk, hcd, Sup, hb⟩ := A
  refine ⟨hm, T, f, _, ps, i, ty, ?_, hb⟩
  rw [hst] at lk ⊢
  refine fnI_ok (k := 0) lk hcd S Sup x0 hself (by rw [hps]; rfl) (pl f cda cc) (hev f cda cc) (hint f cda cc) (hsw f cda cc) (hse f cda cc) (fun vs H Q E h => by rw [hps]; exact spE_len h) (fun A outer s H vs Q E hr h => ?_)
  obtain ⟨te, t, he, ht, hq⟩ := hbody f cda cc A outer s H E
  exact init_body he ht (fun a ws H' => hq Q a ws H' T) h
end
/-! ### the law's walk -/
/-- the law's promise -/
def spLaw (K : PySem.W.Frag) : Sp := fun vs H Q _ => ∃ (a : Addr) (ns : List Int), vs = [.ref a] ∧ ns.length ≤ 63 ∧ SqL K H a (ns.map V.int) ∧ ∀ H', Q (.bl true) H'
theorem spS_law {K : PySem.W.Frag} {m : List D → SM D} (hm : ∀ ns : List Int, ns.length ≤ 63 → ∃ S', m [.rol (ns.map D.int)] [] = .ok (.bl true) S') {vs : List V} {H : Hp} {Q : VK} {E : XK} (h : spLaw K vs H Q E) : spS K m vs H Q E := by
  obtain ⟨a, ns, rfl, hl, hS, q⟩ := h
  obtain ⟨S', h⟩ := hm ns hl
  refine ⟨⟨[]⟩, [], H, H, [.rol (ns.map D.int)], Same.refl _, ⟨rfl, List.nodup_nil, Same.refl _, fun b x e1 e2 => ?_, fun n ob a h1 _ => ?_⟩, ?_, ?_⟩
  · rw [e1] at e2; cases e2
  · simp at h1
  · exact @Rps.cons ⟨[]⟩ K H _ _ _ _ ((@rp_rol ⟨[]⟩ K H _ _).mpr ⟨a, _, rfl, hS, @rps_of_ints ⟨[]⟩ K H ns⟩) (@Rps.nil ⟨[]⟩ K H)
  · rw [h]
    exact fun J v F' H' _ _ r => by rw [(@rp_bl J K F' v true).mp r]; exact q H'
theorem fn_law {P : Program} {w : World} {K : PySem.W.Frag} {mg : Str → Option Value} {base : Heap} {CX : CXT} {k : Nat} {f : Addr} {fd : FuncData} {ps : List Str} {m : List D → SM D} (hm : ∀ ns : List Int, ns.length ≤ 63 → ∃ S', m [.rol (ns.map D.int)] [] = .ok (.bl true) S')
    (G : FnOk P w K mg base CX k f fd ps (spS K m)) : FnOk P w K mg base CX k f fd ps (spLaw K) :=
  ⟨fun vs H Q E h => G.len vs H Q E (spS_law hm h), fun A outer s H args us vs Q E r1 r2 r3 r4 h => G.run A outer s H args us vs Q E r1 r2 r3 r4 (spS_law hm h)⟩
theorem cx_none {P : Program} {w : World} {H : Hp} {s : Shared} {e : Value} {s' : Shared} (h : L2.CX P w [] H s (fun _ _ _ => False) e s') : False := by
  obtain ⟨_, _, _, _, _, _, _, _, _, _, _, _, z⟩ := h
  exact z.elim
theorem walkS {l : PySem.W.OpenLaw} {k : Nat} {q : Program} {loose : List Str} {XP : (Str → Option Value) → Heap → Prop} {YP : World → Heap → Prop} {d : DefRec} {K : Params → PySem.W.Frag} (hk : Room k callerA) (hn : l.most = some 63) (hdf : d.params.defaults = [])
    (hY : ∀ (w : World) (h : Heap), YP w h → (K w.params).In h)
    (F : ∀ (w : World) (mg : Str → Option Value) (fa : Addr) (h : Heap), (K w.params).In h → h.Ns mainGlobals mg → mg d.name = some (.ref fa) →
      ∃ fd : FuncData, (∀ (s : Shared) (u : Value), BindsTo s fd ⟨[u], []⟩ [("script", u)]) ∧ ∀ base : Heap, (K w.params).In base → base.Ns mainGlobals mg → FnOk l.prog w (K w.params) mg base (L2.CX l.prog w) k fa fd ["script"] (spLaw (K w.params))) :
    PySem.W.WalkO q loose XP YP l.row.toRowW d [] (fun f vs => PySem.call f vs) :=
  L2.walk_of (n := 63) (k := k) (x := "script") (CX := fun w => L2.CX l.prog w) (sp := fun w => spLaw (K w.params)) hn (by decide) hdf hk hY F
    (fun w H a ns hl _ hS => ⟨a, ns, rfl, hl, hS, fun _ => rfl⟩) fun _ _ _ _ _ z => cx_none z
/-! what isinstance and except tell, as facts of the written part -/
theorem kit_ref {K : PySem.W.Frag} {t : Value} {c : Addr} {b : Bool} (h : PySem.W.kitOne K t (.ref c) = some b) : kitD K t (.clr c) = some b := h
theorem kit_ty {K : PySem.W.Frag} {t : Value} {c : String} {b : Bool} (h : PySem.W.kitOne K t (.type c) = some b) : kitD K t (.ty c) = some b := h
end DD

/-! SL34: a constant's tuple from the written part -/
namespace DD
open PySem PySem.Spec PyProof.Rows L2
mutual
inductive KV (K : PySem.W.Frag) : Value → D → Prop
  | non : KV K .none .non
  | bl (b : Bool) : KV K (.bool b) (.bl b)
  | int (i : Int) (t : Tok) : KV K (.int i t) (.int i)
  | str (x : Str) (t : Tok) : KV K (.str x t) (.str x)
  | tup {a : Addr} {od : Option Addr} {its : Array Value} {n : Nat} {sl : Array (Option Value)} {ds : List D} (l : K.lookup a = some ⟨.type "tuple", od, .seq its n, sl⟩) (hs : its.size ≤ sizeLine) (r : KVs K its.toList ds) : KV K (.ref a) (.ktup ds)
inductive KVs (K : PySem.W.Frag) : List Value → List D → Prop
  | nil : KVs K [] []
  | cons {u : Value} {us : List Value} {d : D} {ds : List D} (h : KV K u d) (r : KVs K us ds) : KVs K (u :: us) (d :: ds)
end
section
variable {K : PySem.W.Frag}
mutual
theorem KV.rel : ∀ (d : D) (u : Value), KV K u d → ∃ v, RelV v u ∧ ∀ (I : Iota) (F : Hp), @Rp I K F v d
  | .non, u, h => by cases h; exact ⟨.non, rfl, fun I F => (@rp_non I K F _).mpr rfl⟩
  | .bl b, u, h => by cases h; exact ⟨.bl b, rfl, fun I F => (@rp_bl I K F _ _).mpr rfl⟩
  | .int b, u, h => by cases h; exact ⟨.int b, ⟨_, rfl⟩, fun I F => (@rp_int I K F _ _).mpr rfl⟩
  | .str b, u, h => by cases h; exact ⟨.str b, ⟨_, rfl⟩, fun I F => (@rp_str I K F _ _).mpr rfl⟩
  | .ktup ds, u, h => by
    cases h with
    | tup l hs r =>
      obtain ⟨vs, rv, rd⟩ := KVs.rel ds _ r
      exact ⟨.ref _, rfl, fun I F => (@rp_ktup I K F _ _).mpr ⟨_, vs, rfl, .inr ⟨_, _, _, l, rfl, rfl, hs, rv⟩, rd I F⟩⟩
  | .tup _, u, h => by cases h
  | .lst _, u, h => by cases h
  | .rol _, u, h => by cases h
  | .dic _ _, u, h => by cases h
  | .ref _, u, h => by cases h
  | .clr _, u, h => by cases h
  | .ty _, u, h => by cases h
  | .exn _ _ _, u, h => by cases h
theorem KVs.rel : ∀ (ds : List D) (us : List Value), KVs K us ds → ∃ vs, Vals vs us ∧ ∀ (I : Iota) (F : Hp), @Rps I K F vs ds
  | [], us, h => by cases h; exact ⟨[], .nil, fun I F => @Rps.nil I K F⟩
  | d :: ds, us, h => by
    cases h with
    | cons h r =>
      obtain ⟨v, rv, rd⟩ := KV.rel d _ h
      obtain ⟨vs, rvs, rds⟩ := KVs.rel ds _ r
      exact ⟨v :: vs, .cons rv rvs, fun I F => @Rps.cons I K F _ _ _ _ (rd I F) (rds I F)⟩
end
theorem ktup_of {a : Addr} {ds : List D} (h : KV K (.ref a) (.ktup ds)) (I : Iota) : @KTup I K a ds := by
  cases h with
  | tup l hs r =>
    obtain ⟨vs, rv, rd⟩ := KVs.rel ds _ r
    exact @KTup.mk I K a ds ⟨vs, fun H => .inr ⟨_, _, _, l, rfl, rfl, hs, rv⟩, fun F => rd I F⟩
end
end DD

/-! ELM: loops over range, kinds of data (ported from k32's texts) -/
namespace DD
open PySem PySem.Spec PyProof.Rows L2
variable [Iota]
theorem in62_nat {n : Nat} (h : n < 1000000) : in62 ((n : Nat) : Int) = true := by
  unfold in62
  rw [Bool.and_eq_true]
  have a : -(2 ^ 62) ≤ (0 : Int) := by decide
  have b : ((1000000 : Nat) : Int) ≤ 2 ^ 62 := by decide
  exact ⟨decide_eq_true (Int.le_trans a (Int.natCast_nonneg _)), decide_eq_true (Int.lt_of_lt_of_le (Int.ofNat_lt.mpr h) b)⟩
theorem rng_nat {n : Nat} (h : n < 1000000) : dRng1 [.int ((n : Nat) : Int)] = .ok ((List.range' 0 n).map fun (k : Nat) => D.int (0 + (k : Int))) := by
  show (guardR (in62 ((n : Nat) : Int)) >>= fun _ => R.ok (rngD 0 ((n : Nat) : Int).toNat)) = _
  rw [in62_nat h, Int.toNat_natCast]
  show R.ok (rngD 0 n) = _
  unfold rngD
  rw [List.range_eq_range']
theorem sFor_rng {f : En → R (List D)} {tg : D → En → R En} {body : En → R Out} {ρ : En} {i : Int} (n : Nat) (h : f ρ = .ok [.int i]) (hi : i = (n : Nat)) (hn : n < 1000000) : sFor (fun ρ => f ρ >>= dRng1) tg body ρ = forR tg body ((List.range' 0 n).map fun (k : Nat) => D.int (0 + (k : Int))) ρ := by
  rw [sFor_ap, h, hi, R.ok_bind, rng_nat hn, R.ok_bind]
/-- a loop over range(n), an invariant kept -/
theorem forRng_inv {tg : D → En → R En} {body : En → R Out} {n : Nat} (P : Nat → En → Prop) (hs : ∀ k, k < n → ∀ ρ, P k ρ → ∃ ρ', (tg (.int (k : Nat)) ρ >>= body) = .ok (.nx ρ') ∧ P (k + 1) ρ') :
    ∀ ρ, P 0 ρ → ∃ ρ', forR tg body ((List.range' 0 n).map fun (k : Nat) => D.int (0 + (k : Int))) ρ = .ok (.nx ρ') ∧ P n ρ' := by
  have key : ∀ (m a : Nat), a + m = n → ∀ ρ, P a ρ → ∃ ρ', forR tg body ((List.range' a m).map fun (k : Nat) => D.int (0 + (k : Int))) ρ = .ok (.nx ρ') ∧ P n ρ' := by
    intro m
    induction m with
    | zero => intro a h ρ hp; exact ⟨ρ, rfl, by rw [← h]; exact hp⟩
    | succ m ih =>
      intro a h ρ hp
      obtain ⟨ρ1, e1, p1⟩ := hs a (by omega) ρ hp
      obtain ⟨ρ2, e2, p2⟩ := ih (a + 1) (by omega) ρ1 p1
      refine ⟨ρ2, ?_, p2⟩
      rw [List.range'_succ, List.map_cons, Int.zero_add, forR_nx e1]
      exact e2
  intro ρ hp
  exact key n 0 (by omega) ρ hp
theorem dMul_r {i j : Int} (h : within64 j = true) : dMul (.int i) (.int j) = .ok (.int (i * j)) := dMul_i (by rw [h, Bool.or_true])
theorem dMul_l {i j : Int} (h : within64 i = true) : dMul (.int i) (.int j) = .ok (.int (i * j)) := dMul_i (by rw [h, Bool.true_or])
def Bd (l : List Int) : Prop := ∀ d ∈ l, 0 ≤ d ∧ d < 1009
theorem m1009 (i : Int) : 0 ≤ i % 1009 ∧ i % 1009 < 1009 := ⟨Int.emod_nonneg _ (by decide), Int.emod_lt_of_pos _ (by decide)⟩
theorem app_of {i : Nat} {f : En → R D} {ρ : En} {ds : List D} {d : D} (h1 : eOwn i ρ = .ok ds) (h2 : f ρ = .ok d) (h3 : ds.length < 16777216) : sApp i f ρ = .ok (.nx (ρ.set i (.ow (ds ++ [d])))) := by
  rw [sApp_ap, h1, R.okb, h2, R.okb, decide_eq_true h3, guardR_t, R.okb]
theorem isi_of {d : D} {T : String} {b : Bool} (h : kitB (tyName d) T = some b) (h0 : isRef d = false := by rfl) : dIsi T d = .ok (.bl b) := dIsi_ap h0 h
theorem k_lb : kitB "list" "bool" = some false := by decide +kernel
theorem isi_lb (i : List D) : dIsi "bool" (.lst i) = .ok (.bl false) := isi_of k_lb
theorem k_li : kitB "list" "int" = some false := by decide +kernel
theorem isi_li (i : List D) : dIsi "int" (.lst i) = .ok (.bl false) := isi_of k_li
theorem k_ls : kitB "list" "str" = some false := by decide +kernel
theorem isi_ls (i : List D) : dIsi "str" (.lst i) = .ok (.bl false) := isi_of k_ls
theorem k_lt : kitB "list" "tuple" = some false := by decide +kernel
theorem isi_lt (i : List D) : dIsi "tuple" (.lst i) = .ok (.bl false) := isi_of k_lt
theorem k_ll : kitB "list" "list" = some true := by decide +kernel
theorem isi_ll (i : List D) : dIsi "list" (.lst i) = .ok (.bl true) := isi_of k_ll
theorem k_ib : kitB "int" "bool" = some false := by decide +kernel
theorem isi_ib (i : Int) : dIsi "bool" (.int i) = .ok (.bl false) := isi_of k_ib
theorem k_ii : kitB "int" "int" = some true := by decide +kernel
theorem isi_ii (i : Int) : dIsi "int" (.int i) = .ok (.bl true) := isi_of k_ii
theorem k_sb : kitB "str" "bool" = some false := by decide +kernel
theorem isi_sb (i : Str) : dIsi "bool" (.str i) = .ok (.bl false) := isi_of k_sb
theorem k_si : kitB "str" "int" = some false := by decide +kernel
theorem isi_si (i : Str) : dIsi "int" (.str i) = .ok (.bl false) := isi_of k_si
theorem k_ss : kitB "str" "str" = some true := by decide +kernel
theorem isi_ss (i : Str) : dIsi "str" (.str i) = .ok (.bl true) := isi_of k_ss
theorem k_tb : kitB "tuple" "bool" = some false := by decide +kernel
theorem isi_tb (i : List D) : dIsi "bool" (.tup i) = .ok (.bl false) := isi_of k_tb
theorem k_ti : kitB "tuple" "int" = some false := by decide +kernel
theorem isi_ti (i : List D) : dIsi "int" (.tup i) = .ok (.bl false) := isi_of k_ti
theorem k_ts : kitB "tuple" "str" = some false := by decide +kernel
theorem isi_ts (i : List D) : dIsi "str" (.tup i) = .ok (.bl false) := isi_of k_ts
theorem k_tt : kitB "tuple" "tuple" = some true := by decide +kernel
theorem isi_tt (i : List D) : dIsi "tuple" (.tup i) = .ok (.bl true) := isi_of k_tt
theorem k_nb : kitB "NoneType" "bool" = some false := by decide +kernel
theorem isi_nb  : dIsi "bool" (.non) = .ok (.bl false) := isi_of k_nb
theorem k_ni : kitB "NoneType" "int" = some false := by decide +kernel
theorem isi_ni  : dIsi "int" (.non) = .ok (.bl false) := isi_of k_ni
theorem k_ns : kitB "NoneType" "str" = some false := by decide +kernel
theorem isi_ns  : dIsi "str" (.non) = .ok (.bl false) := isi_of k_ns
theorem k_nt : kitB "NoneType" "tuple" = some false := by decide +kernel
theorem isi_nt  : dIsi "tuple" (.non) = .ok (.bl false) := isi_of k_nt
theorem k_nl : kitB "NoneType" "list" = some false := by decide +kernel
theorem isi_nl  : dIsi "list" (.non) = .ok (.bl false) := isi_of k_nl
theorem eComp_rng {f : En → R (List D)} {vs : List Nat} {tg : D → En → R En} {elt : En → R D} {ρ : En} {i : Int} (n : Nat) (g : Nat → D) (h : f ρ = .ok [.int i]) (hi : i = (n : Nat)) (hn : n < 1000000) (ho : noOwn ρ vs = true) (hb : ∀ k, k < n → (tg (.int (k : Nat)) (wipeE ρ vs) >>= elt) = .ok (g k)) :
    eComp (fun ρ => f ρ >>= dRng1) vs tg bYes elt ρ = .ok ((List.range n).map g) := by
  refine eComp_map (l := List.range n) (g := fun k => D.int (0 + ((k : Nat) : Int))) ?_ ho (by rw [List.length_range]; omega) fun k hk => ?_
  · show (f ρ >>= dRng1) = _
    rw [h, hi, R.ok_bind, rng_nat hn, List.range_eq_range']
  · rw [Int.zero_add]
    exact hb k (List.mem_range.mp hk)
end DD

/-! SLE: how the plain functions over the store are evaluated -/
namespace DD
open PySem PySem.Spec PyProof.Rows L2
section
variable {f g : En → SO} {ρ ρ' : En} {S S' : Store} {d : D} {x : Exc}
theorem yseq_go (h : f ρ S = .nx ρ' S') : ySeq f g ρ S = g ρ' S' := by unfold ySeq; rw [h]
theorem yseq_rt (h : f ρ S = .rt d S') : ySeq f g ρ S = .rt d S' := by unfold ySeq; rw [h]
theorem yseq_ex (h : f ρ S = .ex x ρ' S') : ySeq f g ρ S = .ex x ρ' S' := by unfold ySeq; rw [h]
theorem ylift_nx {h : En → R Out} (e : h ρ = .ok (.nx ρ')) : yLift h ρ S = .nx ρ' S := by unfold yLift; rw [e]
theorem ylift_rt {h : En → R Out} (e : h ρ = .ok (.rt d)) : yLift h ρ S = .rt d S := by unfold yLift; rw [e]
theorem sm_of {α : Type} {m : SM α} {k : α → SO} {a : α} (h : m S = .ok a S') : sm m ρ k S = k a S' := by unfold sm; rw [h]
theorem sm_ex {α : Type} {m : SM α} {k : α → SO} (h : m S = .err x S') : sm m ρ k S = .ex x ρ S' := by unfold sm; rw [h]
theorem yif_t {c : En → SM Bool} (h : c ρ S = .ok true S') : yIf c f g ρ S = f ρ S' := by unfold yIf; rw [sm_of h]; rfl
theorem yif_f {c : En → SM Bool} (h : c ρ S = .ok false S') : yIf c f g ρ S = g ρ S' := by unfold yIf; rw [sm_of h]; rfl
theorem yret_of {e : En → SM D} (h : e ρ S = .ok d S') : yRet e ρ S = .rt d S' := by unfold yRet; rw [sm_of h]
theorem yset_of {i : Nat} {e : En → SM D} (h : e ρ S = .ok d S') : ySet i e ρ S = .nx (ρ.set i (.fz d)) S' := by unfold ySet; rw [sm_of h]
theorem ymatch_of {fe : En → SM D} {l : List (PF1 × (En → SO))} (h : fe ρ S = .ok d S') : yMatch fe l ρ S = yCases l d ρ S' := by unfold yMatch; rw [sm_of h]
theorem ycase_no {p : PF1} {r : List (PF1 × (En → SO))} (h : p d = .ok none) : yCases ((p, g) :: r) d ρ S = yCases r d ρ S := by
  show (match p d with
    | .ok (some bs) => g (setAll bs ρ)
    | .ok none => yCases r d ρ
    | _ => fun _ => RO.bad) S = _
  rw [h]
theorem ycase_yes {p : PF1} {r : List (PF1 × (En → SO))} {bs : Bs} (h : p d = .ok (some bs)) : yCases ((p, g) :: r) d ρ S = g (setAll bs ρ) S := by
  show (match p d with
    | .ok (some bs) => g (setAll bs ρ)
    | .ok none => yCases r d ρ
    | _ => fun _ => RO.bad) S = _
  rw [h]
theorem runS_rt {n k : Nat} {b : En → SO} {ds : List D} (hl : (ds.length == n) = true) (h : b (ds.map Sl.fz ++ List.replicate k .un) S = .rt d S') : runS n k b ds S = .ok d S' := by unfold runS; rw [if_pos hl, h]
theorem runS_nx {n k : Nat} {b : En → SO} {ds : List D} (hl : (ds.length == n) = true) (h : b (ds.map Sl.fz ++ List.replicate k .un) S = .nx ρ' S') : runS n k b ds S = .ok .non S' := by unfold runS; rw [if_pos hl, h]
theorem runS_ex {n k : Nat} {b : En → SO} {ds : List D} (hl : (ds.length == n) = true) (h : b (ds.map Sl.fz ++ List.replicate k .un) S = .ex x ρ' S') : runS n k b ds S = .err x S' := by unfold runS; rw [if_pos hl, h]
theorem zL_of {α : Type} {e : En → R α} {a : α} (h : e ρ = .ok a) : (zL e ρ : SM α) S = .ok a S := by
  show SM.lift (e ρ) S = _
  rw [h]; rfl
theorem smb_of {α β : Type} {m : SM α} {k : α → SM β} {a : α} (h : m S = .ok a S') : (m >>= k) S = k a S' := by
  show SM.bind m k S = _
  unfold SM.bind
  rw [h]
theorem smb_ex {α β : Type} {m : SM α} {k : α → SM β} (h : m S = .err x S') : (m >>= k) S = .err x S' := by
  show SM.bind m k S = _
  unfold SM.bind
  rw [h]
theorem ztst_of {f : En → SM D} {b : Bool} (h : f ρ S = .ok (.bl b) S') : zTst f ρ S = .ok b S' := (smb_of h).trans rfl
theorem znot_of {f : En → SM Bool} {b : Bool} (h : f ρ S = .ok b S') : zNot f ρ S = .ok (!b) S' := (smb_of h).trans rfl
theorem zor_f {f g : En → SM Bool} {r : RS Bool} (h : f ρ S = .ok false S') (h2 : g ρ S' = r) : zOr f g ρ S = r := (smb_of h).trans h2
theorem zor_t {f g : En → SM Bool} (h : f ρ S = .ok true S') : zOr f g ρ S = .ok true S' := (smb_of h).trans rfl
theorem zcallS_of {m : List D → SM D} {fa : En → SM (List D)} {ds : List D} {r : RS D} (h : fa ρ S = .ok ds S') (h2 : m ds S' = r) : zCallS m fa ρ S = r := (smb_of h).trans h2
theorem zbin_of {g : D → D → R D} {a b : En → SM D} {x y z : D} {S1 S2 : Store} (h1 : a ρ S = .ok x S1) (h2 : b ρ S1 = .ok y S2) (h3 : g x y = .ok z) : zBin g a b ρ S = .ok z S2 := by
  refine (smb_of h1).trans ((smb_of h2).trans ?_)
  show SM.lift (g x y) S2 = _
  rw [h3]; rfl
theorem zbin_ex {g : D → D → R D} {a b : En → SM D} (h1 : a ρ S = .err x S') : zBin g a b ρ S = .err x S' := smb_ex h1
theorem ztst_ex {f : En → SM D} (h : f ρ S = .err x S') : zTst f ρ S = .err x S' := smb_ex h
theorem zcons_of {a : En → SM D} {r : En → SM (List D)} {v : D} {vs : List D} {S1 S2 : Store} (h1 : a ρ S = .ok v S1) (h2 : r ρ S1 = .ok vs S2) : zCons a r ρ S = .ok (v :: vs) S2 := (smb_of h1).trans ((smb_of h2).trans rfl)
theorem ztup_of {r : En → SM (List D)} {vs : List D} (h1 : r ρ S = .ok vs S') (h : vs.length ≤ 16777216) : zTup r ρ S = .ok (.tup vs) S' := by
  refine (smb_of h1).trans ?_
  refine (smb_of (a := ()) (S' := S') ?_).trans rfl
  rw [show small vs.length = true from decide_eq_true h]; rfl
theorem zlst_of {r : En → SM (List D)} {vs : List D} (h1 : r ρ S = .ok vs S') (h : vs.length ≤ 16777216) : zLst r ρ S = .ok (.lst vs) S' := by
  refine (smb_of h1).trans ?_
  refine (smb_of (a := ()) (S' := S') ?_).trans rfl
  rw [show small vs.length = true from decide_eq_true h]; rfl
theorem ytry_rt {l : List Cl} (h : f ρ S = .rt d S') : yTry f l ρ S = .rt d S' := by unfold yTry; rw [h]
theorem ytry_ex {l : List Cl} (h : f ρ S = .ex x ρ' S') : yTry f l ρ S = yHands x l ρ' S' := by unfold yTry; rw [h]
theorem hands_hit {c : Cl} {r : List Cl} (h : x.cls ∈ c.yes) (h2 : c.g (ρ.set c.i (.fz (.exn x.cls x.ns x.ds))) S = .rt d S') : yHands x (c :: r) ρ S = .rt d S' := by
  show (if x.cls ∈ c.yes then clrR c.i (c.g (ρ.set c.i (.fz (.exn x.cls x.ns x.ds))) S) else if x.cls ∈ c.no then yHands x r ρ S else .bad) = _
  rw [if_pos h, h2]; rfl
theorem yif_ex {c : En → SM Bool} (h : c ρ S = .err x S') : yIf c f g ρ S = .ex x ρ S' := sm_ex h
end
end DD

namespace K17
open PySem PySem.Spec PyProof.Rows L2 DD
/-! ### the text by places -/
def topS (i : Nat) : Stmt := PySem.Challenge.pw_partychoices_k17_tables_refused.main.body.getD i (.Pass ⟨0, 0, 0, 0⟩)
def methS (i j : Nat) : Stmt := (clsBody (topS i)).getD j (.Pass ⟨0, 0, 0, 0⟩)
abbrev s_BadTable___init__ : Stmt := methS 7 0
abbrev N_BadTable___init__ : List Str := ["self", "rule", "things"]
abbrev s__law_cell : Stmt := topS 19
abbrev N__law_cell : List Str := ["script", "k"]
abbrev s__law_draws : Stmt := topS 20
abbrev N__law_draws : List Str := ["cell", "count", "found", "rest", "k", "one"]
abbrev s__law_maps : Stmt := topS 22
abbrev N__law_maps : List Str := ["kind"]
abbrev s__law_sum : Stmt := topS 23
abbrev N__law_sum : List Str := ["kind", "width", "x", "y", "maps"]
abbrev s__law_times : Stmt := topS 24
abbrev N__law_times : List Str := ["kind", "width", "size", "turn", "x", "y", "maps", "after", "unit"]
abbrev s__law_table : Stmt := topS 25
abbrev N__law_table : List Str := ["draws", "kind", "turn", "width", "small", "size", "one", "order", "k", "sums", "products", "i", "x", "row", "line", "j", "y"]
abbrev s__law_changed : Stmt := topS 26
abbrev N__law_changed : List Str := ["table", "which", "i", "j", "thing", "row", "part"]
abbrev s__law_bent : Stmt := topS 27
abbrev N__law_bent : List Str := ["table", "draws", "size", "kind", "bent", "t", "which", "i", "j", "thing"]
abbrev s__law_things : Stmt := topS 28
abbrev N__law_things : List Str := ["size", "many", "found", "k", "longer", "one", "thing"]
abbrev s__law_fails : Stmt := topS 29
abbrev N__law_fails : List Str := ["table", "rule", "things", "sums", "products", "zero", "one", "x", "y", "z"]
abbrev s__law_broken : Stmt := topS 30
abbrev N__law_broken : List Str := ["table", "rules", "rule", "things"]
abbrev s__all_things : Stmt := topS 13
abbrev N__all_things : List Str := ["size", "many", "found", "_", "one", "thing"]
abbrev s__holds : Stmt := topS 14
abbrev N__holds : List Str := ["table", "rule", "things", "plus", "times", "zero", "one", "x", "y", "z"]
abbrev s_check_table : Stmt := topS 15
abbrev N_check_table : List Str := ["table", "rule", "many", "things"]
abbrev s__law_judged : Stmt := topS 31
abbrev N__law_judged : List Str := ["table", "e"]
abbrev s__law_same : Stmt := topS 18
abbrev N__law_same : List Str := ["one", "other", "k"]
abbrev s__law_name : Stmt := topS 21
abbrev N__law_name : List Str := ["number", "salt", "letters", "rest", "name", "k"]
abbrev s__law_weights : Stmt := topS 32
abbrev N__law_weights : List Str := ["size", "draws", "weights", "t", "label"]
abbrev s_Table___init__ : Stmt := methS 16 0
abbrev N_Table___init__ : List Str := ["self", "table", "weights", "label"]
abbrev s_Table_one : Stmt := methS 16 1
abbrev N_Table_one : List Str := ["self"]
abbrev s_Table_letter : Stmt := methS 16 2
abbrev N_Table_letter : List Str := ["self", "label"]
abbrev s__law_star : Stmt := topS 33
abbrev N__law_star : List Str := ["table", "x", "total", "power", "k"]
abbrev s_Table_plus : Stmt := methS 16 3
abbrev N_Table_plus : List Str := ["self", "x", "y"]
abbrev s_Table_times : Stmt := methS 16 4
abbrev N_Table_times : List Str := ["self", "x", "y"]
abbrev s_Table_star : Stmt := methS 16 5
abbrev N_Table_star : List Str := ["self", "x", "found", "_"]
abbrev s__law_holds : Stmt := topS 34
abbrev N__law_holds : List Str := ["algebra", "table", "weights", "label", "x", "y"]
abbrev s_law : Stmt := topS 35
abbrev N_law : List Str := ["script", "made", "k", "draws", "table", "bent", "first", "check", "size", "handed", "label", "one"]
def c_RULES : List D := [(.ktup [(.str "zero"), (.int 1)]), (.ktup [(.str "same"), (.int 1)]), (.ktup [(.str "order"), (.int 2)]), (.ktup [(.str "group"), (.int 3)]), (.ktup [(.str "one"), (.int 1)]), (.ktup [(.str "none"), (.int 1)]), (.ktup [(.str "times"), (.int 3)]), (.ktup [(.str "left"), (.int 3)]), (.ktup [(.str "right"), (.int 3)])]
/-! ### each def as a plain function -/
class CA where
  Algebra : Addr
  BadChance : Addr
  BadFlow : Addr
  BadTable : Addr
  BadWeight : Addr
  Clash : Addr
  Fault : Addr
  NotSound : Addr
  Table : Addr
  TooMany : Addr
def ns_BadTable : List Str := ["rule", "things"]
def ge_BadTable : List D → R Unit := gE (fun ρ => eJs [(eC (.str "the table breaks the rule ")), (fun ρ => (eVar 1) ρ >>= dFmt)] Str.empty ρ >>= fun z => .ok (.str z))
def b__law_cell : En → R Out := (sSeq (sIf (tst (eBin dLt (eVar 1) (eCall dLen (eCons (eVar 0) eNil)))) (sRet (eBin dIx (eVar 0) (eVar 1))) sNext)
    (sRet (eC (.int 0))))
def m__law_cell : List D → R D := runD 2 0 b__law_cell
def b__law_draws_0 : En → R Out := (sIf (tst (eBin dGt (eVar 3) (eC (.int 0)))) (sSeq (sApp 2 (eBin dMod (eCall dInt (eCons (eVar 3) eNil)) (eC (.int 1009))))
    (sSet 3 (eBin dFdiv (eVar 3) (eC (.int 1009))))) (sSeq (sSet 5 (eBin dMod (eCall dInt (eCons (eBin dAdd (eBin dMul (eBin dAdd (eCall dAbs (eCons (eVar 0) eNil)) (eC (.int 1))) (eC (.int 48271))) (eBin dMul (eBin dAdd (eVar 4) (eC (.int 1))) (eC (.int 69621)))) eNil)) (eC (.int 2147483647))))
    (sApp 2 (eBin dMod (eBin dFdiv (eBin dMod (eCall dInt (eCons (eBin dAdd (eBin dMul (eVar 5) (eC (.int 16807))) (eBin dMul (eVar 4) (eC (.int 7919)))) eNil)) (eC (.int 2147483629))) (eC (.int 7))) (eC (.int 1009))))))
def b__law_draws : En → R Out := (sSeq (sSetO 2 (eLst eNil))
    (sSeq (sSet 3 (eCall dAbs (eCons (eVar 0) eNil)))
    (sSeq (sIf (tst (eBin dLt (eVar 3) (eBin dPow (eC (.int 10)) (eC (.int 18))))) (sSet 3 (eC (.int 0))) sNext)
    (sSeq (sFor (fun ρ => (eCons (eVar 1) eNil) ρ >>= dRng1) (tgN 4) (b__law_draws_0))
    (sFrz 2 (sRet (eVar 2)))))))
def m__law_draws : List D → R D := runD 2 4 b__law_draws
def b__law_maps : En → R Out := (sSeq (sIf (tst (eBin dEq (eVar 0) (eC (.int 4)))) (sRet (toLst (eLst (eCons (eTup (eCons (eC (.int 0)) (eCons (eC (.int 0)) eNil))) (eCons (eTup (eCons (eC (.int 0)) (eCons (eC (.int 1)) eNil))) (eCons (eTup (eCons (eC (.int 0)) (eCons (eC (.int 2)) eNil))) (eCons (eTup (eCons (eC (.int 1)) (eCons (eC (.int 1)) eNil))) (eCons (eTup (eCons (eC (.int 1)) (eCons (eC (.int 2)) eNil))) (eCons (eTup (eCons (eC (.int 2)) (eCons (eC (.int 2)) eNil))) eNil))))))))) sNext)
    (sRet (toLst (eLst (eCons (eTup (eCons (eC (.int 0)) (eCons (eC (.int 0)) eNil))) (eCons (eTup (eCons (eC (.int 1)) (eCons (eC (.int 1)) eNil))) (eCons (eTup (eCons (eC (.int 1)) (eCons (eC (.int 2)) eNil))) (eCons (eTup (eCons (eC (.int 2)) (eCons (eC (.int 1)) eNil))) (eCons (eTup (eCons (eC (.int 2)) (eCons (eC (.int 2)) eNil))) eNil)))))))))
def m__law_maps : List D → R D := runD 1 0 b__law_maps
def b__law_sum : En → R Out := (sSeq (sIf (bAnd (tst (eBin dEq (eVar 0) (eC (.int 1)))) (bAnd (tst (eBin dGt (eVar 2) (eC (.int 0)))) (tst (eBin dGt (eVar 3) (eC (.int 0)))))) (sRet (eCall dMin2 (eCons (eVar 2) (eCons (eVar 3) eNil)))) sNext)
    (sSeq (sIf (bOr (tst (eBin dEq (eVar 0) (eC (.int 3)))) (tst (eBin dEq (eVar 0) (eC (.int 5))))) (sRet (eBin dAdd (eBin dMul (eVar 1) (eCall dMax2 (eCons (eBin dFdiv (eVar 2) (eVar 1)) (eCons (eBin dFdiv (eVar 3) (eVar 1)) eNil)))) (eCall dMax2 (eCons (eBin dMod (eCall dInt (eCons (eVar 2) eNil)) (eVar 1)) (eCons (eBin dMod (eCall dInt (eCons (eVar 3) eNil)) (eVar 1)) eNil))))) sNext)
    (sSeq (sIf (bOr (tst (eBin dEq (eVar 0) (eC (.int 4)))) (tst (eBin dEq (eVar 0) (eC (.int 6))))) (sSeq (sSet 4 (eCall m__law_maps (eCons (eVar 0) eNil)))
    (sRet (fun ρ => (eVar 4) ρ >>= fun l => (eTup (eCons (eCall dMax2 (eCons (eBin dIx (eBin dIx (eVar 4) (eVar 2)) (eC (.int 0))) (eCons (eBin dIx (eBin dIx (eVar 4) (eVar 3)) (eC (.int 0))) eNil))) (eCons (eCall dMax2 (eCons (eBin dIx (eBin dIx (eVar 4) (eVar 2)) (eC (.int 1))) (eCons (eBin dIx (eBin dIx (eVar 4) (eVar 3)) (eC (.int 1))) eNil))) eNil))) ρ >>= fun x => ofLst l >>= fun ds => dIndexL ds x))) sNext)
    (sRet (eCall dMax2 (eCons (eVar 2) (eCons (eVar 3) eNil)))))))
def m__law_sum : List D → R D := runD 4 1 b__law_sum
def b__law_times : En → R Out := (sSeq (sIf (tst (eBin dEq (eVar 0) (eC (.int 0)))) (sRet (eCall dMin2 (eCons (eVar 4) (eCons (eVar 5) eNil)))) sNext)
    (sSeq (sIf (bOr (tst (eBin dEq (eVar 0) (eC (.int 1)))) (tst (eBin dEq (eVar 0) (eC (.int 2))))) (sSeq (sIf (bOr (tst (eBin dEq (eVar 4) (eC (.int 0)))) (tst (eBin dEq (eVar 5) (eC (.int 0))))) (sRet (eC (.int 0))) sNext)
    (sRet (eCall dMin2 (eCons (eBin dSub (eBin dAdd (eVar 4) (eVar 5)) (eC (.int 1))) (eCons (eBin dSub (eVar 2) (eC (.int 1))) eNil))))) sNext)
    (sSeq (sIf (tst (eBin dEq (eVar 0) (eC (.int 3)))) (sSeq (sSet 8 (eCall dMax2 (eCons (eBin dMul (eBin dMod (eCall dInt (eCons (eVar 4) eNil)) (eC (.int 2))) (eBin dMod (eCall dInt (eCons (eVar 5) eNil)) (eC (.int 2)))) (eCons (eBin dMul (eBin dMul (eBin dFdiv (eVar 4) (eC (.int 2))) (eBin dFdiv (eVar 5) (eC (.int 2)))) (eBin dSub (eC (.int 1)) (eVar 3))) eNil))))
    (sRet (eBin dAdd (eVar 8) (eBin dMul (eC (.int 2)) (eCall dMax3 (eCons (eBin dMul (eBin dMod (eCall dInt (eCons (eVar 4) eNil)) (eC (.int 2))) (eBin dFdiv (eVar 5) (eC (.int 2)))) (eCons (eBin dMul (eBin dFdiv (eVar 4) (eC (.int 2))) (eBin dMod (eCall dInt (eCons (eVar 5) eNil)) (eC (.int 2)))) (eCons (eBin dMul (eBin dMul (eBin dFdiv (eVar 4) (eC (.int 2))) (eBin dFdiv (eVar 5) (eC (.int 2)))) (eVar 3)) eNil)))))))) sNext)
    (sSeq (sIf (tst (eBin dEq (eVar 0) (eC (.int 5)))) (sRet (eBin dAdd (eBin dMul (eVar 1) (eCall dMin2 (eCons (eBin dFdiv (eVar 4) (eVar 1)) (eCons (eBin dFdiv (eVar 5) (eVar 1)) eNil)))) (eCall dMin2 (eCons (eBin dMod (eCall dInt (eCons (eVar 4) eNil)) (eVar 1)) (eCons (eBin dMod (eCall dInt (eCons (eVar 5) eNil)) (eVar 1)) eNil))))) sNext)
    (sSeq (sSet 6 (eCall m__law_maps (eCons (eVar 0) eNil)))
    (sSeq (sSet 7 (eTup (eCons (eC (.int 0)) (eCons (eBin dIx (eBin dIx (eVar 6) (eVar 5)) (eC (.int 0))) (eCons (eBin dIx (eBin dIx (eVar 6) (eVar 5)) (eC (.int 1))) eNil)))))
    (sRet (fun ρ => (eVar 6) ρ >>= fun l => (eTup (eCons (eBin dIx (eVar 7) (eBin dIx (eBin dIx (eVar 6) (eVar 4)) (eC (.int 0)))) (eCons (eBin dIx (eVar 7) (eBin dIx (eBin dIx (eVar 6) (eVar 4)) (eC (.int 1)))) eNil))) ρ >>= fun x => ofLst l >>= fun ds => dIndexL ds x))))))))
def m__law_times : List D → R D := runD 6 3 b__law_times
def b__law_table_0 : En → R Out := (sIns 7 (eBin dMod (eCall dInt (eCons (eBin dIx (eVar 0) (eBin dAdd (eC (.int 4)) (eVar 8))) eNil)) (eBin dAdd (eVar 8) (eC (.int 1)))) (eVar 8))
def b__law_table_1 : En → R Out := (sSeq (sSet 16 (fun ρ => eOwn 7 ρ >>= fun ds => (eVar 15) ρ >>= fun x => dIndexL ds x))
    (sSeq (sApp 13 (eIxO (eOwn 7) (eCall m__law_sum (eCons (eVar 1) (eCons (eVar 3) (eCons (eVar 12) (eCons (eVar 16) eNil)))))))
    (sIf (tst (eBin dEq (eBin dMod (eCall dInt (eCons (eBin dIx (eVar 0) (eC (.int 2))) eNil)) (eC (.int 2))) (eC (.int 0)))) (sApp 14 (eIxO (eOwn 7) (eCall m__law_times (eCons (eVar 1) (eCons (eVar 3) (eCons (eVar 5) (eCons (eVar 2) (eCons (eVar 12) (eCons (eVar 16) eNil))))))))) (sApp 14 (eIxO (eOwn 7) (eCall m__law_times (eCons (eVar 1) (eCons (eVar 3) (eCons (eVar 5) (eCons (eVar 2) (eCons (eVar 16) (eCons (eVar 12) eNil))))))))))))
def b__law_table_2 : En → R Out := (sSeq (sSet 12 (fun ρ => eOwn 7 ρ >>= fun ds => (eVar 11) ρ >>= fun x => dIndexL ds x))
    (sSeq (sSetO 13 (eLst eNil))
    (sSeq (sSetO 14 (eLst eNil))
    (sSeq (sFor (fun ρ => (eCons (eVar 5) eNil) ρ >>= dRng1) (tgN 15) (b__law_table_1))
    (sSeq (sApp 9 (eCall dTupL (eOwn 13)))
    (sApp 10 (eCall dTupL (eOwn 14))))))))
def b__law_table : En → R Out := (sSeq (sSet 1 (eBin dMod (eCall dInt (eCons (eBin dIx (eVar 0) (eC (.int 0))) eNil)) (eC (.int 7))))
    (sSeq (sSet 2 (eBin dMod (eCall dInt (eCons (eBin dIx (eVar 0) (eC (.int 3))) eNil)) (eC (.int 2))))
    (sSeq (sSet 3 (eC (.int 2)))
    (sSeq (sIf (tst (eBin dEq (eVar 1) (eC (.int 5)))) (sSet 3 (eBin dAdd (eC (.int 2)) (eBin dMod (eCall dInt (eCons (eBin dIx (eVar 0) (eC (.int 1))) eNil)) (eC (.int 2))))) sNext)
    (sSeq (sSet 4 (eBin dAdd (eC (.int 2)) (eBin dMod (eCall dInt (eCons (eBin dIx (eVar 0) (eC (.int 1))) eNil)) (eC (.int 5)))))
    (sSeq (sSet 5 (eBin dIx (eTup (eCons (eBin dAdd (eC (.int 1)) (eBin dMod (eCall dInt (eCons (eBin dIx (eVar 0) (eC (.int 1))) eNil)) (eC (.int 6)))) (eCons (eVar 4) (eCons (eVar 4) (eCons (eC (.int 4)) (eCons (eC (.int 6)) (eCons (eBin dMul (eC (.int 2)) (eVar 3)) (eCons (eC (.int 5)) eNil)))))))) (eVar 1)))
    (sSeq (sSet 6 (eBin dIx (eTup (eCons (eBin dSub (eVar 5) (eC (.int 1))) (eCons (eC (.int 1)) (eCons (eC (.int 1)) (eCons (eC (.int 1)) (eCons (eC (.int 4)) (eCons (eBin dSub (eVar 5) (eC (.int 1))) (eCons (eC (.int 2)) eNil)))))))) (eVar 1)))
    (sSeq (sSetO 7 (eLst eNil))
    (sSeq (sFor (fun ρ => (eCons (eVar 5) eNil) ρ >>= dRng1) (tgN 8) (b__law_table_0))
    (sSeq (sSetO 9 (eLst eNil))
    (sSeq (sSetO 10 (eLst eNil))
    (sSeq (sFor (fun ρ => (eCons (eVar 5) eNil) ρ >>= dRng1) (tgN 11) (b__law_table_2))
    (sRet (eTup (eCons (eCall dTupL (eOwn 9)) (eCons (eCall dTupL (eOwn 10)) (eCons (eIxO (eOwn 7) (eC (.int 0))) (eCons (eIxO (eOwn 7) (eVar 6)) eNil))))))))))))))))))
def m__law_table : List D → R D := runD 1 16 b__law_table
def b__law_changed : En → R Out := (sSeq (sSet 5 (eBin dAdd (eBin dAdd (eSl (eBin dIx (eBin dIx (eVar 0) (eVar 1)) (eVar 2)) oNone (oSome (eVar 3))) (eTup (eCons (eVar 4) eNil))) (eSl (eBin dIx (eBin dIx (eVar 0) (eVar 1)) (eVar 2)) (oSome (eBin dAdd (eVar 3) (eC (.int 1)))) oNone)))
    (sSeq (sSet 6 (eBin dAdd (eBin dAdd (eSl (eBin dIx (eVar 0) (eVar 1)) oNone (oSome (eVar 2))) (eTup (eCons (eVar 5) eNil))) (eSl (eBin dIx (eVar 0) (eVar 1)) (oSome (eBin dAdd (eVar 2) (eC (.int 1)))) oNone)))
    (sSeq (sIf (tst (eBin dEq (eVar 1) (eC (.int 0)))) (sRet (eTup (eCons (eVar 6) (eCons (eBin dIx (eVar 0) (eC (.int 1))) (eCons (eBin dIx (eVar 0) (eC (.int 2))) (eCons (eBin dIx (eVar 0) (eC (.int 3))) eNil)))))) sNext)
    (sRet (eTup (eCons (eBin dIx (eVar 0) (eC (.int 0))) (eCons (eVar 6) (eCons (eBin dIx (eVar 0) (eC (.int 2))) (eCons (eBin dIx (eVar 0) (eC (.int 3))) eNil)))))))))
def m__law_changed : List D → R D := runD 5 2 b__law_changed
def b__law_bent_0 : En → R Out := (sSeq (sSet 6 (eBin dMod (eCall dInt (eCons (eBin dIx (eVar 1) (eBin dAdd (eBin dMul (eC (.int 4)) (eVar 5)) (eC (.int 1)))) eNil)) (eC (.int 2))))
    (sSeq (sSet 7 (eBin dMod (eCall dInt (eCons (eBin dIx (eVar 1) (eBin dAdd (eBin dMul (eC (.int 4)) (eVar 5)) (eC (.int 2)))) eNil)) (eVar 2)))
    (sSeq (sSet 8 (eBin dMod (eCall dInt (eCons (eBin dIx (eVar 1) (eBin dAdd (eBin dMul (eC (.int 4)) (eVar 5)) (eC (.int 3)))) eNil)) (eVar 2)))
    (sSeq (sSet 9 (eBin dMod (eCall dInt (eCons (eBin dIx (eVar 1) (eBin dAdd (eBin dMul (eC (.int 4)) (eVar 5)) (eC (.int 4)))) eNil)) (eVar 2)))
    (sSeq (sSet 4 (eCall m__law_changed (eCons (eVar 4) (eCons (eVar 6) (eCons (eVar 7) (eCons (eVar 8) (eCons (eVar 9) eNil)))))))
    (sIf (tst (eBin dLt (eVar 3) (eC (.int 5)))) (sSet 4 (eCall m__law_changed (eCons (eVar 4) (eCons (eVar 6) (eCons (eVar 8) (eCons (eVar 7) (eCons (eVar 9) eNil))))))) sNext))))))
def b__law_bent : En → R Out := (sSeq (sSet 2 (eCall dLen (eCons (eBin dIx (eVar 0) (eC (.int 0))) eNil)))
    (sSeq (sSet 3 (eBin dMod (eCall dInt (eCons (eBin dIx (eVar 1) (eC (.int 0))) eNil)) (eC (.int 8))))
    (sSeq (sIf (tst (eBin dEq (eVar 3) (eC (.int 0)))) (sRet (eTup (eCons (eBin dIx (eVar 0) (eC (.int 0))) (eCons (eBin dIx (eVar 0) (eC (.int 1))) (eCons (eBin dMod (eCall dInt (eCons (eBin dIx (eVar 1) (eC (.int 1))) eNil)) (eVar 2)) (eCons (eBin dIx (eVar 0) (eC (.int 3))) eNil)))))) sNext)
    (sSeq (sIf (tst (eBin dEq (eVar 3) (eC (.int 1)))) (sRet (eTup (eCons (eBin dIx (eVar 0) (eC (.int 0))) (eCons (eBin dIx (eVar 0) (eC (.int 1))) (eCons (eBin dIx (eVar 0) (eC (.int 2))) (eCons (eBin dMod (eCall dInt (eCons (eBin dIx (eVar 1) (eC (.int 1))) eNil)) (eVar 2)) eNil)))))) sNext)
    (sSeq (sSet 4 (eVar 0))
    (sSeq (sFor (fun ρ => (eCons (eBin dAdd (eC (.int 1)) (eBin dMod (eCall dInt (eCons (eBin dFdiv (eBin dIx (eVar 1) (eC (.int 0))) (eC (.int 8))) eNil)) (eC (.int 2)))) eNil) ρ >>= dRng1) (tgN 5) (b__law_bent_0))
    (sRet (eVar 4))))))))
def m__law_bent : List D → R D := runD 2 8 b__law_bent
def b__law_things_0 : En → R Out := (sSet 4 (eBin dAdd (eVar 4) (toLst (eComp (fun ρ => (eCons (eVar 0) eNil) ρ >>= dRng1) [6] (tgN 6) bYes (eBin dAdd (eVar 5) (eTup (eCons (eVar 6) eNil)))))))
def b__law_things_1 : En → R Out := (sSeq (sSet 4 (toLst (eLst eNil)))
    (sSeq (sFor (fun ρ => (eVar 2) ρ >>= items) (tgN 5) (b__law_things_0))
    (sSet 2 (eVar 4))))
def b__law_things : En → R Out := (sSeq (sSet 2 (toLst (eLst (eCons (eTup eNil) eNil))))
    (sSeq (sFor (fun ρ => (eCons (eVar 1) eNil) ρ >>= dRng1) (tgN 3) (b__law_things_1))
    (sRet (eVar 2))))
def m__law_things : List D → R D := runD 2 5 b__law_things
def b__law_fails : En → R Out := (sSeq (sSet 3 (eBin dIx (eVar 0) (eC (.int 0))))
    (sSeq (sSet 4 (eBin dIx (eVar 0) (eC (.int 1))))
    (sSeq (sSet 5 (eBin dIx (eVar 0) (eC (.int 2))))
    (sSeq (sSet 6 (eBin dIx (eVar 0) (eC (.int 3))))
    (sSeq (sSet 7 (eBin dIx (eVar 2) (eC (.int 0))))
    (sSeq (sSet 8 (eBin dIx (eVar 2) (eBin dFdiv (eCall dLen (eCons (eVar 2) eNil)) (eC (.int 2)))))
    (sSeq (sSet 9 (eBin dIx (eVar 2) (fun ρ => (eC (.int 1)) ρ >>= dNeg)))
    (sSeq (sIf (tst (eBin dEq (eVar 1) (eC (.str "zero")))) (sRet (eBin dNe (eBin dIx (eBin dIx (eVar 3) (eVar 5)) (eVar 7)) (eVar 7))) sNext)
    (sSeq (sIf (tst (eBin dEq (eVar 1) (eC (.str "same")))) (sRet (eBin dNe (eBin dIx (eBin dIx (eVar 3) (eVar 7)) (eVar 7)) (eVar 7))) sNext)
    (sSeq (sIf (tst (eBin dEq (eVar 1) (eC (.str "order")))) (sRet (eBin dNe (eBin dIx (eBin dIx (eVar 3) (eVar 7)) (eVar 8)) (eBin dIx (eBin dIx (eVar 3) (eVar 8)) (eVar 7)))) sNext)
    (sSeq (sIf (tst (eBin dEq (eVar 1) (eC (.str "group")))) (sRet (eBin dNe (eBin dIx (eBin dIx (eVar 3) (eBin dIx (eBin dIx (eVar 3) (eVar 7)) (eVar 8))) (eVar 9)) (eBin dIx (eBin dIx (eVar 3) (eVar 7)) (eBin dIx (eBin dIx (eVar 3) (eVar 8)) (eVar 9))))) sNext)
    (sSeq (sIf (tst (eBin dEq (eVar 1) (eC (.str "one")))) (sRet (vOr (eBin dNe (eBin dIx (eBin dIx (eVar 4) (eVar 6)) (eVar 7)) (eVar 7)) (eBin dNe (eBin dIx (eBin dIx (eVar 4) (eVar 7)) (eVar 6)) (eVar 7)))) sNext)
    (sSeq (sIf (tst (eBin dEq (eVar 1) (eC (.str "none")))) (sRet (vOr (eBin dNe (eBin dIx (eBin dIx (eVar 4) (eVar 5)) (eVar 7)) (eVar 5)) (eBin dNe (eBin dIx (eBin dIx (eVar 4) (eVar 7)) (eVar 5)) (eVar 5)))) sNext)
    (sSeq (sIf (tst (eBin dEq (eVar 1) (eC (.str "times")))) (sRet (eBin dNe (eBin dIx (eBin dIx (eVar 4) (eBin dIx (eBin dIx (eVar 4) (eVar 7)) (eVar 8))) (eVar 9)) (eBin dIx (eBin dIx (eVar 4) (eVar 7)) (eBin dIx (eBin dIx (eVar 4) (eVar 8)) (eVar 9))))) sNext)
    (sSeq (sIf (tst (eBin dEq (eVar 1) (eC (.str "left")))) (sRet (eBin dNe (eBin dIx (eBin dIx (eVar 4) (eVar 7)) (eBin dIx (eBin dIx (eVar 3) (eVar 8)) (eVar 9))) (eBin dIx (eBin dIx (eVar 3) (eBin dIx (eBin dIx (eVar 4) (eVar 7)) (eVar 8))) (eBin dIx (eBin dIx (eVar 4) (eVar 7)) (eVar 9))))) sNext)
    (sRet (eBin dNe (eBin dIx (eBin dIx (eVar 4) (eBin dIx (eBin dIx (eVar 3) (eVar 7)) (eVar 8))) (eVar 9)) (eBin dIx (eBin dIx (eVar 3) (eBin dIx (eBin dIx (eVar 4) (eVar 7)) (eVar 9))) (eBin dIx (eBin dIx (eVar 4) (eVar 8)) (eVar 9))))))))))))))))))))
def m__law_fails : List D → R D := runD 3 7 b__law_fails
def b__law_broken_0 : En → R Out := (sIf (fun ρ => (eCall m__law_fails (eCons (eVar 0) (eCons (eBin dIx (eVar 2) (eC (.int 0))) (eCons (eVar 3) eNil)))) ρ >>= truD) (sRet (eTup (eCons (eBin dIx (eVar 2) (eC (.int 0))) (eCons (eVar 3) eNil)))) sNext)
def b__law_broken_1 : En → R Out := (sFor (fun ρ => (eCall m__law_things (eCons (eCall dLen (eCons (eBin dIx (eVar 0) (eC (.int 0))) eNil)) (eCons (eBin dIx (eVar 2) (eC (.int 1))) eNil))) ρ >>= items) (tgN 3) (b__law_broken_0))
def b__law_broken : En → R Out := (sSeq (sSet 1 (toLst (eLst (eCons (eTup (eCons (eC (.str "zero")) (eCons (eC (.int 1)) eNil))) (eCons (eTup (eCons (eC (.str "same")) (eCons (eC (.int 1)) eNil))) (eCons (eTup (eCons (eC (.str "order")) (eCons (eC (.int 2)) eNil))) (eCons (eTup (eCons (eC (.str "group")) (eCons (eC (.int 3)) eNil))) (eCons (eTup (eCons (eC (.str "one")) (eCons (eC (.int 1)) eNil))) (eCons (eTup (eCons (eC (.str "none")) (eCons (eC (.int 1)) eNil))) (eCons (eTup (eCons (eC (.str "times")) (eCons (eC (.int 3)) eNil))) (eCons (eTup (eCons (eC (.str "left")) (eCons (eC (.int 3)) eNil))) eNil)))))))))))
    (sSeq (sFor (fun ρ => (eBin dAdd (eVar 1) (toLst (eLst (eCons (eTup (eCons (eC (.str "right")) (eCons (eC (.int 3)) eNil))) eNil)))) ρ >>= items) (tgN 2) (b__law_broken_1))
    (sRet (eTup eNil))))
def m__law_broken : List D → R D := runD 1 3 b__law_broken
def b__all_things_0 : En → R Out := (sSet 2 (toLst (eComp2L (fun ρ => (eVar 2) ρ >>= items) [4, 5] (tgN 4) bYes (fun ρ => (eCons (eVar 0) eNil) ρ >>= dRng1) [5] (tgN 5) bYes (eBin dAdd (eVar 4) (eTup (eCons (eVar 5) eNil))))))
def b__all_things : En → R Out := (sSeq (sSet 2 (toLst (eLst (eCons (eTup eNil) eNil))))
    (sSeq (sFor (fun ρ => (eCons (eVar 1) eNil) ρ >>= dRng1) (tgN 3) (b__all_things_0))
    (sRet (eVar 2))))
def m__all_things : List D → R D := runD 2 4 b__all_things
def b__holds [CA] : En → SO := (ySeq (yLift (sAsgT (eVar 0) (tgT 4 (tgsCons (tgN 3) (tgsCons (tgN 4) (tgsCons (tgN 5) (tgsCons (tgN 6) tgsNil)))))))
    (ySeq (yMatch (zL (eTup (eCons (eVar 1) (eCons (eVar 2) eNil)))) [((mSeq 2 (mCons (mStr "zero") (mCons (mSeq 1 (mCons (mCap 7) mNil)) mNil))), (yLift (sRet (eBin dEq (eBin dIx (eBin dIx (eVar 3) (eVar 5)) (eVar 7)) (eVar 7))))),
      ((mSeq 2 (mCons (mStr "same") (mCons (mSeq 1 (mCons (mCap 7) mNil)) mNil))), (yLift (sRet (eBin dEq (eBin dIx (eBin dIx (eVar 3) (eVar 7)) (eVar 7)) (eVar 7))))),
      ((mSeq 2 (mCons (mStr "order") (mCons (mSeq 2 (mCons (mCap 7) (mCons (mCap 8) mNil))) mNil))), (yLift (sRet (eBin dEq (eBin dIx (eBin dIx (eVar 3) (eVar 7)) (eVar 8)) (eBin dIx (eBin dIx (eVar 3) (eVar 8)) (eVar 7)))))),
      ((mSeq 2 (mCons (mStr "group") (mCons (mSeq 3 (mCons (mCap 7) (mCons (mCap 8) (mCons (mCap 9) mNil)))) mNil))), (yLift (sRet (eBin dEq (eBin dIx (eBin dIx (eVar 3) (eBin dIx (eBin dIx (eVar 3) (eVar 7)) (eVar 8))) (eVar 9)) (eBin dIx (eBin dIx (eVar 3) (eVar 7)) (eBin dIx (eBin dIx (eVar 3) (eVar 8)) (eVar 9))))))),
      ((mSeq 2 (mCons (mStr "one") (mCons (mSeq 1 (mCons (mCap 7) mNil)) mNil))), (yLift (sRet (vAnd (eBin dEq (eBin dIx (eBin dIx (eVar 4) (eVar 6)) (eVar 7)) (eVar 7)) (eBin dEq (eBin dIx (eBin dIx (eVar 4) (eVar 7)) (eVar 6)) (eVar 7)))))),
      ((mSeq 2 (mCons (mStr "none") (mCons (mSeq 1 (mCons (mCap 7) mNil)) mNil))), (yLift (sRet (vAnd (eBin dEq (eBin dIx (eBin dIx (eVar 4) (eVar 5)) (eVar 7)) (eVar 5)) (eBin dEq (eBin dIx (eBin dIx (eVar 4) (eVar 7)) (eVar 5)) (eVar 5)))))),
      ((mSeq 2 (mCons (mStr "times") (mCons (mSeq 3 (mCons (mCap 7) (mCons (mCap 8) (mCons (mCap 9) mNil)))) mNil))), (yLift (sRet (eBin dEq (eBin dIx (eBin dIx (eVar 4) (eBin dIx (eBin dIx (eVar 4) (eVar 7)) (eVar 8))) (eVar 9)) (eBin dIx (eBin dIx (eVar 4) (eVar 7)) (eBin dIx (eBin dIx (eVar 4) (eVar 8)) (eVar 9))))))),
      ((mSeq 2 (mCons (mStr "left") (mCons (mSeq 3 (mCons (mCap 7) (mCons (mCap 8) (mCons (mCap 9) mNil)))) mNil))), (yLift (sRet (eBin dEq (eBin dIx (eBin dIx (eVar 4) (eVar 7)) (eBin dIx (eBin dIx (eVar 3) (eVar 8)) (eVar 9))) (eBin dIx (eBin dIx (eVar 3) (eBin dIx (eBin dIx (eVar 4) (eVar 7)) (eVar 8))) (eBin dIx (eBin dIx (eVar 4) (eVar 7)) (eVar 9))))))),
      ((mSeq 2 (mCons (mStr "right") (mCons (mSeq 3 (mCons (mCap 7) (mCons (mCap 8) (mCons (mCap 9) mNil)))) mNil))), (yLift (sRet (eBin dEq (eBin dIx (eBin dIx (eVar 4) (eBin dIx (eBin dIx (eVar 3) (eVar 7)) (eVar 8))) (eVar 9)) (eBin dIx (eBin dIx (eVar 3) (eBin dIx (eBin dIx (eVar 4) (eVar 7)) (eVar 9))) (eBin dIx (eBin dIx (eVar 4) (eVar 8)) (eVar 9)))))))])
    (yLift (sRet (eC (.bl false))))))
def m__holds [CA] : List D → SM D := runS 3 7 b__holds
def b_check_table_0 [CA] : En → SO := (yIf (zNot (zTst (zCallS m__holds (zL (eCons (eVar 0) (eCons (eVar 1) (eCons (eVar 3) eNil))))))) (yRaise CA.BadTable ns_BadTable ge_BadTable (zL (eCons (eVar 1) (eCons (eVar 3) eNil)))) yNext)
def b_check_table_1 [CA] : En → SO := (yFor (zL (fun ρ => (eCall m__all_things (eCons (eCall dLen (eCons (eBin dIx (eVar 0) (eC (.int 0))) eNil)) (eCons (eVar 2) eNil))) ρ >>= items)) (tgN 3) b_check_table_0)
def b_check_table [CA] : En → SO := (yFor (zL (fun ρ => (eC (.ktup c_RULES)) ρ >>= items)) (tgT 2 (tgsCons (tgN 1) (tgsCons (tgN 2) tgsNil))) b_check_table_1)
def m_check_table [CA] : List D → SM D := runS 1 3 b_check_table
def b__law_judged [CA] : En → SO := (ySeq (yTry (yIf (zTst (zBin dIsN (zCallS m_check_table (zL (eCons (eVar 0) eNil))) (zL (eC .non)))) (yLift (sRet (eTup eNil))) yNext) [⟨[CA.BadTable], [], 1, (ySeq (yIf (zOr (zNot (zTst (zIsE [CA.BadTable] [] (zL (eVar 1)) (zL (eC (.clr CA.Fault)))))) (zNot (zTst (zIsE [CA.BadTable] [] (zL (eVar 1)) (zL (eC (.ty "ValueError"))))))) (yLift (sRet (eTup (eCons (eC (.str "odd")) eNil)))) yNext)
    (ySeq (yIf (zTst (zIsE [] [CA.BadTable] (zL (eVar 1)) (zL (eTup (eCons (eC (.clr CA.BadChance)) (eCons (eC (.clr CA.BadFlow)) (eCons (eC (.clr CA.BadWeight)) (eCons (eC (.clr CA.Clash)) (eCons (eC (.clr CA.NotSound)) (eCons (eC (.clr CA.TooMany)) eNil)))))))))) (yLift (sRet (eTup (eCons (eC (.str "odd")) eNil)))) yNext)
    (yRet (zTup (zCons (zXf [CA.BadTable] "rule" (zL (eVar 1))) (zCons (zXf [CA.BadTable] "things" (zL (eVar 1))) zNil))))))⟩])
    (yLift (sRet (eTup (eCons (eC (.str "odd")) eNil)))))
def m__law_judged [CA] : List D → SM D := runS 1 1 b__law_judged
def b__law_same (rec : List D → R D) : En → R Out := (sSeq (sIf (bOr (tst (fun ρ => (eVar 0) ρ >>= dIsi "bool")) (tst (fun ρ => (eVar 1) ρ >>= dIsi "bool"))) (sRet (vAnd (fun ρ => (eVar 0) ρ >>= dIsi "bool") (vAnd (fun ρ => (eVar 1) ρ >>= dIsi "bool") (eBin dEq (eVar 0) (eVar 1))))) sNext)
    (sSeq (sIf (tst (fun ρ => (eVar 0) ρ >>= dIsi "int")) (sRet (vAnd (fun ρ => (eVar 1) ρ >>= dIsi "int") (eBin dEq (eVar 0) (eVar 1)))) sNext)
    (sSeq (sIf (tst (fun ρ => (eVar 0) ρ >>= dIsi "str")) (sRet (vAnd (fun ρ => (eVar 1) ρ >>= dIsi "str") (eBin dEq (eVar 0) (eVar 1)))) sNext)
    (sSeq (sIf (tst (fun ρ => (eVar 0) ρ >>= dIsi "tuple")) (sSeq (sIf (bOr (bNot (tst (fun ρ => (eVar 1) ρ >>= dIsi "tuple"))) (tst (eBin dNe (eCall dLen (eCons (eVar 0) eNil)) (eCall dLen (eCons (eVar 1) eNil))))) (sRet (eC (.bl false))) sNext)
    (sRet (eCall dAll (eComp (fun ρ => (eCons (eCall dLen (eCons (eVar 0) eNil)) eNil) ρ >>= dRng1) [2] (tgN 2) bYes (eCall rec (eCons (eBin dIx (eVar 0) (eVar 2)) (eCons (eBin dIx (eVar 1) (eVar 2)) eNil))))))) sNext)
    (sSeq (sIf (tst (fun ρ => (eVar 0) ρ >>= dIsi "list")) (sSeq (sIf (bOr (bNot (tst (fun ρ => (eVar 1) ρ >>= dIsi "list"))) (tst (eBin dNe (eCall dLen (eCons (eVar 0) eNil)) (eCall dLen (eCons (eVar 1) eNil))))) (sRet (eC (.bl false))) sNext)
    (sRet (eCall dAll (eComp (fun ρ => (eCons (eCall dLen (eCons (eVar 0) eNil)) eNil) ρ >>= dRng1) [2] (tgN 2) bYes (eCall rec (eCons (eBin dIx (eVar 0) (eVar 2)) (eCons (eBin dIx (eVar 1) (eVar 2)) eNil))))))) sNext)
    (sRet (vAnd (eBin dIsN (eVar 0) (eC .non)) (eBin dIsN (eVar 1) (eC .non)))))))))
def m__law_same : Nat → List D → R D
  | 0 => fun _ => .bad
  | n + 1 => runD 2 1 (b__law_same (m__law_same n))
def b__law_name_0 : En → R Out := (sIf (tst (eBin dGt (eVar 3) (eC (.int 0)))) (sSeq (sSet 4 (eBin dAdd (eBin dIx (eVar 2) (eBin dMod (eCall dInt (eCons (eVar 3) eNil)) (eC (.int 26)))) (eVar 4)))
    (sSet 3 (eBin dFdiv (eVar 3) (eC (.int 26))))) sNext)
def b__law_name : En → R Out := (sSeq (sSet 2 (eC (.str "abcdefghijklmnopqrstuvwxyz")))
    (sSeq (sSet 3 (eBin dAdd (eBin dMul (eVar 1) (eC (.int 64))) (eVar 0)))
    (sSeq (sSet 4 (eBin dIx (eVar 2) (eBin dMod (eCall dInt (eCons (eVar 3) eNil)) (eC (.int 26)))))
    (sSeq (sSet 3 (eBin dFdiv (eVar 3) (eC (.int 26))))
    (sSeq (sFor (fun ρ => (eCons (eC (.int 11)) eNil) ρ >>= dRng1) (tgN 5) (b__law_name_0))
    (sSeq (sIf (tst (eBin dEq (eBin dMod (eCall dInt (eCons (eVar 1) eNil)) (eC (.int 2))) (eC (.int 1)))) (sRet (fun ρ => (eVar 4) ρ >>= dRev)) sNext)
    (sRet (eVar 4))))))))
def m__law_name : List D → R D := runD 2 4 b__law_name
def b__law_weights_0 [CA] : En → SO := (ySeq (yLift (sSet 4 (eTup (eCons (eCall m__law_name (eCons (eBin dAdd (eC (.int 27)) (eVar 3)) (eCons (eBin dIx (eVar 1) (eC (.int 1))) eNil))) (eCons (eCall m__law_name (eCons (eBin dAdd (eC (.int 44)) (eBin dMod (eCall dInt (eCons (eBin dIx (eVar 1) (eBin dAdd (eC (.int 2)) (eVar 3))) eNil)) (eC (.int 5)))) (eCons (eBin dIx (eVar 1) (eC (.int 1))) eNil))) eNil)))))
    (yPut2 (zL (eVar 2)) (zL (eVar 4)) (zL (eBin dMod (eCall dInt (eCons (eBin dIx (eVar 1) (eBin dAdd (eC (.int 6)) (eVar 3))) eNil)) (eVar 0)))))
def b__law_weights [CA] : En → SO := (ySeq (ySet 2 (fun _ => SM.new (.dT [] [])))
    (ySeq (yFor (zL (fun ρ => (eCons (eBin dMod (eCall dInt (eCons (eBin dIx (eVar 1) (eC (.int 0))) eNil)) (eC (.int 5))) eNil) ρ >>= dRng1)) (tgN 3) b__law_weights_0)
    (yLift (sRet (eVar 2)))))
def m__law_weights [CA] : List D → SM D := runS 2 3 b__law_weights
def b_Table___init__ [CA] : En → SO := (ySeq (yFld [CA.Table] "_sums" (zL (eVar 0)) (zL (eBin dIx (eVar 1) (eC (.int 0)))))
    (ySeq (yFld [CA.Table] "_products" (zL (eVar 0)) (zL (eBin dIx (eVar 1) (eC (.int 1)))))
    (ySeq (yFld [CA.Table] "_one" (zL (eVar 0)) (zL (eBin dIx (eVar 1) (eC (.int 3)))))
    (yFld [CA.Table] "_weights" (zL (eVar 0)) (eCopyT 3 2)))))
def m_Table___init__ [CA] : List D → SM D := runS 3 1 b_Table___init__
def b_Table_one [CA] : En → SO := (yRet (zFld [CA.Table] "_one" (zL (eVar 0))))
def m_Table_one [CA] : List D → SM D := runS 1 0 b_Table_one
def b_Table_letter [CA] : En → SO := (yRet (zOp ixD (zFld [CA.Table] "_weights" (zL (eVar 0))) (zL (eVar 1))))
def m_Table_letter [CA] : List D → SM D := runS 2 0 b_Table_letter
def b__law_star_0 : En → R Out := (sSeq (sSet 3 (eBin dIx (eBin dIx (eBin dIx (eVar 0) (eC (.int 1))) (eVar 3)) (eVar 1)))
    (sSet 2 (eBin dIx (eBin dIx (eBin dIx (eVar 0) (eC (.int 0))) (eVar 2)) (eVar 3))))
def b__law_star : En → R Out := (sSeq (sSet 2 (eBin dIx (eVar 0) (eC (.int 3))))
    (sSeq (sSet 3 (eBin dIx (eVar 0) (eC (.int 3))))
    (sSeq (sFor (fun ρ => (eCons (eC (.int 8)) eNil) ρ >>= dRng1) (tgN 4) (b__law_star_0))
    (sRet (eVar 2)))))
def m__law_star : List D → R D := runD 2 3 b__law_star
def b_Table_plus [CA] : En → SO := (yRet (zOp ixD (zOp ixD (zFld [CA.Table] "_sums" (zL (eVar 0))) (zL (eVar 1))) (zL (eVar 2))))
def m_Table_plus [CA] : List D → SM D := runS 3 0 b_Table_plus
def b_Table_times [CA] : En → SO := (yRet (zOp ixD (zOp ixD (zFld [CA.Table] "_products" (zL (eVar 0))) (zL (eVar 1))) (zL (eVar 2))))
def m_Table_times [CA] : List D → SM D := runS 3 0 b_Table_times
def b_Table_star_0 [CA] : En → SO := (ySet 2 (zMeth [CA.Table] "plus" (fun _ => m_Table_plus) (zL (eVar 0)) (zCons (zFld [CA.Table] "_one" (zL (eVar 0))) (zCons (zMeth [CA.Table] "times" (fun _ => m_Table_times) (zL (eVar 0)) (zL (eCons (eVar 1) (eCons (eVar 2) eNil)))) zNil))))
def b_Table_star [CA] : En → SO := (ySeq (ySet 2 (zFld [CA.Table] "_one" (zL (eVar 0))))
    (ySeq (yFor (zItems (zFld [CA.Table] "_sums" (zL (eVar 0)))) (tgN 3) b_Table_star_0)
    (yLift (sRet (eVar 2)))))
def m_Table_star [CA] : List D → SM D := runS 2 2 b_Table_star
def b__law_holds_0 [CA] : En → SO := (yIf (zNot (zTst (zCall (m__law_same 12) (zCons (zOp ixD (zL (eVar 2)) (zL (eVar 3))) (zCons (zMeth [CA.Table] "letter" (fun _ => m_Table_letter) (zL (eVar 0)) (zL (eCons (eVar 3) eNil))) zNil))))) (yLift (sRet (eC (.bl false)))) yNext)
def b__law_holds_1 [CA] : En → SO := (yIf (zNot (zTst (zCall (m__law_same 12) (zCons (zL (toLst (eLst (eCons (eBin dIx (eBin dIx (eBin dIx (eVar 1) (eC (.int 0))) (eVar 4)) (eVar 5)) (eCons (eBin dIx (eBin dIx (eBin dIx (eVar 1) (eC (.int 1))) (eVar 4)) (eVar 5)) eNil))))) (zCons (zLst (zCons (zMeth [CA.Table] "plus" (fun _ => m_Table_plus) (zL (eVar 0)) (zL (eCons (eVar 4) (eCons (eVar 5) eNil)))) (zCons (zMeth [CA.Table] "times" (fun _ => m_Table_times) (zL (eVar 0)) (zL (eCons (eVar 4) (eCons (eVar 5) eNil)))) zNil))) zNil))))) (yLift (sRet (eC (.bl false)))) yNext)
def b__law_holds_2 [CA] : En → SO := (ySeq (yIf (zNot (zTst (zCall (m__law_same 12) (zCons (zL (eCall m__law_star (eCons (eVar 1) (eCons (eVar 4) eNil)))) (zCons (zMeth [CA.Table] "star" (fun _ => m_Table_star) (zL (eVar 0)) (zL (eCons (eVar 4) eNil))) zNil))))) (yLift (sRet (eC (.bl false)))) yNext)
    (yFor (zL (fun ρ => (eCons (eCall dLen (eCons (eBin dIx (eVar 1) (eC (.int 0))) eNil)) eNil) ρ >>= dRng1)) (tgN 5) b__law_holds_1))
def b__law_holds [CA] : En → SO := (ySeq (yIf (zOr (zNot (zTst (zIsI [CA.Table] [] (zL (eVar 0)) (zL (eC (.clr CA.Algebra)))))) (zNot (zTst (zCall (m__law_same 12) (zCons (zL (eBin dIx (eVar 1) (eC (.int 3)))) (zCons (zMeth [CA.Table] "one" (fun _ => m_Table_one) (zL (eVar 0)) zNil) zNil)))))) (yLift (sRet (eC (.bl false)))) yNext)
    (ySeq (yFor (zItems (zKeys (zL (eVar 2)))) (tgN 3) b__law_holds_0)
    (ySeq (yFor (zL (fun ρ => (eCons (eCall dLen (eCons (eBin dIx (eVar 1) (eC (.int 0))) eNil)) eNil) ρ >>= dRng1)) (tgN 4) b__law_holds_2)
    (yLift (sRet (eC (.bl true)))))))
def m__law_holds [CA] : List D → SM D := runS 3 3 b__law_holds
def b_law_0 [CA] : En → SO := (yIf (zNot (zTst (zCall (m__law_same 12) (zCons (zL (eBin dIx (eVar 7) (eC (.int 1)))) (zCons (zCallS m__law_judged (zL (eCons (eBin dIx (eVar 7) (eC (.int 0))) eNil))) zNil))))) (yLift (sRet (eC (.bl false)))) yNext)
def b_law_1 [CA] : En → SO := (yPut2 (zL (eVar 9)) (zL (eVar 10)) (zBin dMod (zCall dInt (zCons (zBin dAdd (zOp ixD (zL (eVar 9)) (zL (eVar 10))) (zL (eC (.int 1)))) zNil)) (zL (eVar 8))))
def b_law_2 [CA] : En → SO := (ySeq (yLift (sSet 3 (eCall m__law_draws (eCons (eBin dAdd (eCall m__law_cell (eCons (eVar 0) (eCons (eVar 2) eNil))) (eBin dMul (eC (.int 7919)) (eVar 2))) (eCons (eC (.int 30)) eNil)))))
    (ySeq (yLift (sSet 4 (eCall m__law_table (eCons (eSl (eVar 3) oNone (oSome (eC (.int 10)))) eNil))))
    (ySeq (yLift (sSet 5 (eCall m__law_bent (eCons (eVar 4) (eCons (eSl (eVar 3) (oSome (eC (.int 10))) (oSome (eC (.int 20)))) eNil)))))
    (ySeq (yLift (sSet 6 (eCall m__law_broken (eCons (eVar 4) eNil))))
    (ySeq (yFor (zL (fun ρ => (toLst (eLst (eCons (toLst (eLst (eCons (eVar 4) (eCons (eVar 6) eNil)))) (eCons (toLst (eLst (eCons (eVar 5) (eCons (eCall m__law_broken (eCons (eVar 5) eNil)) eNil)))) (eCons (toLst (eLst (eCons (eVar 4) (eCons (eVar 6) eNil)))) eNil))))) ρ >>= items)) (tgN 7) b_law_0)
    (yIf (zL (bNot (fun ρ => (eVar 6) ρ >>= truD))) (ySeq (yLift (sSet 8 (eCall dLen (eCons (eBin dIx (eVar 4) (eC (.int 0))) eNil))))
    (ySeq (ySet 9 (zCallS m__law_weights (zL (eCons (eVar 8) (eCons (eSl (eVar 3) (oSome (eC (.int 20))) (oSome (eC (.int 30)))) eNil)))))
    (ySeq (yAppO 1 (zLst (zCons (zMake CA.Table m_Table___init__ (zL (eCons (eVar 4) (eCons (eVar 9) eNil)))) (zCons (zL (eVar 4)) (zCons (zCallS m__law_weights (zL (eCons (eVar 8) (eCons (eSl (eVar 3) (oSome (eC (.int 20))) (oSome (eC (.int 30)))) eNil)))) zNil)))))
    (yFor (zItems (zKeys (zL (eVar 9)))) (tgN 10) b_law_1)))) yNext))))))
def b_law [CA] : En → SO := (ySeq (yLift (sSetO 1 (eLst eNil)))
    (ySeq (yFor (zL (fun ρ => (eCons (eC (.int 3)) eNil) ρ >>= dRng1)) (tgN 2) b_law_2)
    (yFrz 1 (yRet (zCall (dL1 dAll) (zCons (eComp2 (zL (fun ρ => (eVar 1) ρ >>= items)) [11] (tgN 11) bYes (zCallS m__law_holds (zL (eCons (eBin dIx (eVar 11) (eC (.int 0))) (eCons (eBin dIx (eVar 11) (eC (.int 1))) (eCons (eBin dIx (eVar 11) (eC (.int 2))) eNil)))))) zNil))))))
def m_law [CA] : List D → SM D := runS 1 11 b_law
end K17

namespace K17
open PySem PySem.Spec PyProof.Rows L2 DD
/-! ### what the top has laid -/
structure Txt (K : PySem.W.Frag) (mg : Str → Option Value) : Prop where
  b_ValueError : mg "ValueError" = none
  b_abs : mg "abs" = none
  b_all : mg "all" = none
  b_bool : mg "bool" = none
  b_int : mg "int" = none
  b_isinstance : mg "isinstance" = none
  b_len : mg "len" = none
  b_list : mg "list" = none
  b_max : mg "max" = none
  b_min : mg "min" = none
  b_range : mg "range" = none
  b_str : mg "str" = none
  b_tuple : mg "tuple" = none
  k_RULES : ∃ a : Addr, mg "RULES" = some (.ref a) ∧ ∀ I : Iota, @KTup I K a c_RULES
structure Fx [CA] (K : PySem.W.Frag) (mg : Str → Option Value) : Prop where
  g_Fault : mg "Fault" = some (.ref CA.Fault)
  ExcC_BadTable : ExcC K CA.BadTable
  kit_BadTable_Fault : kitD K (.ref CA.BadTable) (.clr CA.Fault) = some true
  kit_BadTable_ValueError : kitD K (.ref CA.BadTable) (.ty "ValueError") = some true
  g_BadChance : mg "BadChance" = some (.ref CA.BadChance)
  g_BadFlow : mg "BadFlow" = some (.ref CA.BadFlow)
  g_BadWeight : mg "BadWeight" = some (.ref CA.BadWeight)
  g_Clash : mg "Clash" = some (.ref CA.Clash)
  g_NotSound : mg "NotSound" = some (.ref CA.NotSound)
  g_TooMany : mg "TooMany" = some (.ref CA.TooMany)
  kit_BadTable_BadChance_BadFlow_BadWeight_Clash_NotSound_TooMany : kitD K (.ref CA.BadTable) (.tup [(.clr CA.BadChance), (.clr CA.BadFlow), (.clr CA.BadWeight), (.clr CA.Clash), (.clr CA.NotSound), (.clr CA.TooMany)]) = some false
  xf_BadTable_rule : XfC K CA.BadTable ∧ PySem.W.findIn K (.ref CA.BadTable) "rule" = some none
  xf_BadTable_things : XfC K CA.BadTable ∧ PySem.W.findIn K (.ref CA.BadTable) "things" = some none
  exm_BadTable_BadTable : PySem.W.exmOne K (.ref CA.BadTable) (.ref CA.BadTable) = some true
  g_BadTable : mg "BadTable" = some (.ref CA.BadTable)
  cls_Table : Cls K CA.Table
  na_Table__sums : NoAttr K CA.Table "_sums"
  na_Table__products : NoAttr K CA.Table "_products"
  na_Table__one : NoAttr K CA.Table "_one"
  na_Table__weights : NoAttr K CA.Table "_weights"
  g_Algebra : mg "Algebra" = some (.ref CA.Algebra)
  InsC_Table : InsC K CA.Table
  kit_Table_Algebra : kitD K (.ref CA.Table) (.clr CA.Algebra) = some true
  nx_BadTable_rule : PySem.W.findIn K (.ref CA.BadTable) "rule" = some none
  nx_BadTable_things : PySem.W.findIn K (.ref CA.BadTable) "things" = some none
/-! ### the walk -/
section
variable [CA] {P : Program} {w : World} {K : PySem.W.Frag} {mg : Str → Option Value} {base : Heap}
theorem sc__law_cell : FnScope N__law_cell ["script", "k"] (defScope s__law_cell) := ⟨rfl, rfl, rfl, by decide +kernel, rfl, by decide +kernel, by decide +kernel⟩
theorem has__law_cell (T : Txt K mg) (A : At K mg "_law_cell" s__law_cell ["script", "k"]) : HasD P w K mg base 1 "_law_cell" ["script", "k"] m__law_cell :=
  At.hasD (k := 0) A sc__law_cell fun I f cdv Ar outer s H E hr => ⟨_, (pssd_cons (psd_if (ptd_cmp op_lt dr_lt (pdv 1) (pd_callB cr_len dc_len T.b_len PySem.boot_len (pad_cons (pdv 0) pad_nil))) (pssd_one (psd_ret (pd_ix (pdv 0) (pdv 1)))) pssd_nil)
      (pssd_one (psd_ret pd_int)))⟩
theorem sc__law_draws : FnScope N__law_draws ["cell", "count"] (defScope s__law_draws) := ⟨rfl, rfl, rfl, by decide +kernel, rfl, by decide +kernel, by decide +kernel⟩
theorem has__law_draws (T : Txt K mg) (A : At K mg "_law_draws" s__law_draws ["cell", "count"]) : HasD P w K mg base 1 "_law_draws" ["cell", "count"] m__law_draws :=
  At.hasD (k := 0) A sc__law_draws fun I f cdv Ar outer s H E hr => ⟨_, (pssd_cons (psd_setO (i := 2) sc__law_draws.nd (pf_lst pad_nil))
      (pssd_cons (psd_set (i := 3) sc__law_draws.nd (pd_callB cr_abs dc_abs T.b_abs PyProof.Rows.boot_abs (pad_cons (pdv 0) pad_nil)))
      (pssd_cons (psd_if (ptd_cmp op_lt dr_lt (pdv 3) (pd_op op_pow dr_pow pd_int pd_int)) (pssd_one (psd_set (i := 3) sc__law_draws.nd pd_int)) pssd_nil)
      (pssd_cons (psd_for PassesOwn.never rfl (pid_range1 T.b_range (pad_cons (pdv 1) pad_nil)) (pgd_name (i := 4) sc__law_draws.nd) (pssd_one (psd_if (ptd_cmp op_gt dr_gt (pdv 3) pd_int) (pssd_cons (psd_append 2 (pd_op op_mod dr_mod (pd_callT cr_int dc_int T.b_int PyProof.Rows.boot_int (pad_cons (pdv 3) pad_nil)) pd_int))
      (pssd_one (psd_set (i := 3) sc__law_draws.nd (pd_op op_fdiv dr_fdiv (pdv 3) pd_int)))) (pssd_cons (psd_set (i := 5) sc__law_draws.nd (pd_op op_mod dr_mod (pd_callT cr_int dc_int T.b_int PyProof.Rows.boot_int (pad_cons (pd_op op_addA dr_add (pd_op op_mul dr_mul (pd_op op_addA dr_add (pd_callB cr_abs dc_abs T.b_abs PyProof.Rows.boot_abs (pad_cons (pdv 0) pad_nil)) pd_int) pd_int) (pd_op op_mul dr_mul (pd_op op_addA dr_add (pdv 4) pd_int) pd_int)) pad_nil)) pd_int))
      (pssd_one (psd_append 2 (pd_op op_mod dr_mod (pd_op op_fdiv dr_fdiv (pd_op op_mod dr_mod (pd_callT cr_int dc_int T.b_int PyProof.Rows.boot_int (pad_cons (pd_op op_addA dr_add (pd_op op_mul dr_mul (pdv 5) pd_int) (pd_op op_mul dr_mul (pdv 4) pd_int)) pad_nil)) pd_int) pd_int) pd_int)))))))
      (pssd_one (psd_frz 2 (psd_ret (pdv 2))))))))⟩
theorem sc__law_maps : FnScope N__law_maps ["kind"] (defScope s__law_maps) := ⟨rfl, rfl, rfl, by decide +kernel, rfl, by decide +kernel, by decide +kernel⟩
theorem has__law_maps (T : Txt K mg) (A : At K mg "_law_maps" s__law_maps ["kind"]) : HasD P w K mg base 1 "_law_maps" ["kind"] m__law_maps :=
  At.hasD (k := 0) A sc__law_maps fun I f cdv Ar outer s H E hr => ⟨_, (pssd_cons (psd_if (ptd_cmp op_eq dr_eq (pdv 0) pd_int) (pssd_one (psd_ret ((pf_lst (pad_cons (pd_tup (pad_cons pd_int (pad_cons pd_int pad_nil))) (pad_cons (pd_tup (pad_cons pd_int (pad_cons pd_int pad_nil))) (pad_cons (pd_tup (pad_cons pd_int (pad_cons pd_int pad_nil))) (pad_cons (pd_tup (pad_cons pd_int (pad_cons pd_int pad_nil))) (pad_cons (pd_tup (pad_cons pd_int (pad_cons pd_int pad_nil))) (pad_cons (pd_tup (pad_cons pd_int (pad_cons pd_int pad_nil))) pad_nil)))))))).pd)) pssd_nil)
      (pssd_one (psd_ret ((pf_lst (pad_cons (pd_tup (pad_cons pd_int (pad_cons pd_int pad_nil))) (pad_cons (pd_tup (pad_cons pd_int (pad_cons pd_int pad_nil))) (pad_cons (pd_tup (pad_cons pd_int (pad_cons pd_int pad_nil))) (pad_cons (pd_tup (pad_cons pd_int (pad_cons pd_int pad_nil))) (pad_cons (pd_tup (pad_cons pd_int (pad_cons pd_int pad_nil))) pad_nil))))))).pd)))⟩
theorem sc__law_sum : FnScope N__law_sum ["kind", "width", "x", "y"] (defScope s__law_sum) := ⟨rfl, rfl, rfl, by decide +kernel, rfl, by decide +kernel, by decide +kernel⟩
theorem has__law_sum (T : Txt K mg) (A : At K mg "_law_sum" s__law_sum ["kind", "width", "x", "y"]) (h__law_maps : HasD P w K mg base 1 "_law_maps" ["kind"] m__law_maps) : HasD P w K mg base 2 "_law_sum" ["kind", "width", "x", "y"] m__law_sum :=
  At.hasD (k := 1) A sc__law_sum fun I f cdv Ar outer s H E hr => ⟨_, (pssd_cons (psd_if ((pwd_and (ptd_cmp op_eq dr_eq (pdv 0) pd_int) (pwd_and (ptd_cmp op_gt dr_gt (pdv 2) pd_int) (pwd_and1 (ptd_cmp op_gt dr_gt (pdv 3) pd_int))))).pt (pssd_one (psd_ret (pd_callB (call_min2 rfl) dc_min2 T.b_min PyProof.Rows.boot_min (pad_cons (pdv 2) (pad_cons (pdv 3) pad_nil))))) pssd_nil)
      (pssd_cons (psd_if ((pwd_or (ptd_cmp op_eq dr_eq (pdv 0) pd_int) (pwd_or1 (ptd_cmp op_eq dr_eq (pdv 0) pd_int)))).pt (pssd_one (psd_ret (pd_op op_addA dr_add (pd_op op_mul dr_mul (pdv 1) (pd_callB (call_max2 rfl) dc_max2 T.b_max PyProof.Rows.boot_max (pad_cons (pd_op op_fdiv dr_fdiv (pdv 2) (pdv 1)) (pad_cons (pd_op op_fdiv dr_fdiv (pdv 3) (pdv 1)) pad_nil)))) (pd_callB (call_max2 rfl) dc_max2 T.b_max PyProof.Rows.boot_max (pad_cons (pd_op op_mod dr_mod (pd_callT cr_int dc_int T.b_int PyProof.Rows.boot_int (pad_cons (pdv 2) pad_nil)) (pdv 1)) (pad_cons (pd_op op_mod dr_mod (pd_callT cr_int dc_int T.b_int PyProof.Rows.boot_int (pad_cons (pdv 3) pad_nil)) (pdv 1)) pad_nil)))))) pssd_nil)
      (pssd_cons (psd_if ((pwd_or (ptd_cmp op_eq dr_eq (pdv 0) pd_int) (pwd_or1 (ptd_cmp op_eq dr_eq (pdv 0) pd_int)))).pt (pssd_cons (psd_set (i := 4) sc__law_sum.nd (pd_callD h__law_maps hr (pad_cons (pdv 0) pad_nil)))
      (pssd_one (psd_ret (pd_index (hu65_of hr) (pdv 4) (pd_tup (pad_cons (pd_callB (call_max2 rfl) dc_max2 T.b_max PyProof.Rows.boot_max (pad_cons (pd_ix (pd_ix (pdv 4) (pdv 2)) pd_int) (pad_cons (pd_ix (pd_ix (pdv 4) (pdv 3)) pd_int) pad_nil))) (pad_cons (pd_callB (call_max2 rfl) dc_max2 T.b_max PyProof.Rows.boot_max (pad_cons (pd_ix (pd_ix (pdv 4) (pdv 2)) pd_int) (pad_cons (pd_ix (pd_ix (pdv 4) (pdv 3)) pd_int) pad_nil))) pad_nil))))))) pssd_nil)
      (pssd_one (psd_ret (pd_callB (call_max2 rfl) dc_max2 T.b_max PyProof.Rows.boot_max (pad_cons (pdv 2) (pad_cons (pdv 3) pad_nil))))))))⟩
theorem sc__law_times : FnScope N__law_times ["kind", "width", "size", "turn", "x", "y"] (defScope s__law_times) := ⟨rfl, rfl, rfl, by decide +kernel, rfl, by decide +kernel, by decide +kernel⟩
theorem has__law_times (T : Txt K mg) (A : At K mg "_law_times" s__law_times ["kind", "width", "size", "turn", "x", "y"]) (h__law_maps : HasD P w K mg base 1 "_law_maps" ["kind"] m__law_maps) : HasD P w K mg base 2 "_law_times" ["kind", "width", "size", "turn", "x", "y"] m__law_times :=
  At.hasD (k := 1) A sc__law_times fun I f cdv Ar outer s H E hr => ⟨_, (pssd_cons (psd_if (ptd_cmp op_eq dr_eq (pdv 0) pd_int) (pssd_one (psd_ret (pd_callB (call_min2 rfl) dc_min2 T.b_min PyProof.Rows.boot_min (pad_cons (pdv 4) (pad_cons (pdv 5) pad_nil))))) pssd_nil)
      (pssd_cons (psd_if ((pwd_or (ptd_cmp op_eq dr_eq (pdv 0) pd_int) (pwd_or1 (ptd_cmp op_eq dr_eq (pdv 0) pd_int)))).pt (pssd_cons (psd_if ((pwd_or (ptd_cmp op_eq dr_eq (pdv 4) pd_int) (pwd_or1 (ptd_cmp op_eq dr_eq (pdv 5) pd_int)))).pt (pssd_one (psd_ret pd_int)) pssd_nil)
      (pssd_one (psd_ret (pd_callB (call_min2 rfl) dc_min2 T.b_min PyProof.Rows.boot_min (pad_cons (pd_op op_sub dr_sub (pd_op op_addA dr_add (pdv 4) (pdv 5)) pd_int) (pad_cons (pd_op op_sub dr_sub (pdv 2) pd_int) pad_nil)))))) pssd_nil)
      (pssd_cons (psd_if (ptd_cmp op_eq dr_eq (pdv 0) pd_int) (pssd_cons (psd_set (i := 8) sc__law_times.nd (pd_callB (call_max2 rfl) dc_max2 T.b_max PyProof.Rows.boot_max (pad_cons (pd_op op_mul dr_mul (pd_op op_mod dr_mod (pd_callT cr_int dc_int T.b_int PyProof.Rows.boot_int (pad_cons (pdv 4) pad_nil)) pd_int) (pd_op op_mod dr_mod (pd_callT cr_int dc_int T.b_int PyProof.Rows.boot_int (pad_cons (pdv 5) pad_nil)) pd_int)) (pad_cons (pd_op op_mul dr_mul (pd_op op_mul dr_mul (pd_op op_fdiv dr_fdiv (pdv 4) pd_int) (pd_op op_fdiv dr_fdiv (pdv 5) pd_int)) (pd_op op_sub dr_sub pd_int (pdv 3))) pad_nil))))
      (pssd_one (psd_ret (pd_op op_addA dr_add (pdv 8) (pd_op op_mul dr_mul pd_int (pd_callB (call_max3Nu rfl) dc_max3 T.b_max PyProof.Rows.boot_max (pad_cons (pd_op op_mul dr_mul (pd_op op_mod dr_mod (pd_callT cr_int dc_int T.b_int PyProof.Rows.boot_int (pad_cons (pdv 4) pad_nil)) pd_int) (pd_op op_fdiv dr_fdiv (pdv 5) pd_int)) (pad_cons (pd_op op_mul dr_mul (pd_op op_fdiv dr_fdiv (pdv 4) pd_int) (pd_op op_mod dr_mod (pd_callT cr_int dc_int T.b_int PyProof.Rows.boot_int (pad_cons (pdv 5) pad_nil)) pd_int)) (pad_cons (pd_op op_mul dr_mul (pd_op op_mul dr_mul (pd_op op_fdiv dr_fdiv (pdv 4) pd_int) (pd_op op_fdiv dr_fdiv (pdv 5) pd_int)) (pdv 3)) pad_nil))))))))) pssd_nil)
      (pssd_cons (psd_if (ptd_cmp op_eq dr_eq (pdv 0) pd_int) (pssd_one (psd_ret (pd_op op_addA dr_add (pd_op op_mul dr_mul (pdv 1) (pd_callB (call_min2 rfl) dc_min2 T.b_min PyProof.Rows.boot_min (pad_cons (pd_op op_fdiv dr_fdiv (pdv 4) (pdv 1)) (pad_cons (pd_op op_fdiv dr_fdiv (pdv 5) (pdv 1)) pad_nil)))) (pd_callB (call_min2 rfl) dc_min2 T.b_min PyProof.Rows.boot_min (pad_cons (pd_op op_mod dr_mod (pd_callT cr_int dc_int T.b_int PyProof.Rows.boot_int (pad_cons (pdv 4) pad_nil)) (pdv 1)) (pad_cons (pd_op op_mod dr_mod (pd_callT cr_int dc_int T.b_int PyProof.Rows.boot_int (pad_cons (pdv 5) pad_nil)) (pdv 1)) pad_nil)))))) pssd_nil)
      (pssd_cons (psd_set (i := 6) sc__law_times.nd (pd_callD h__law_maps hr (pad_cons (pdv 0) pad_nil)))
      (pssd_cons (psd_set (i := 7) sc__law_times.nd (pd_tup (pad_cons pd_int (pad_cons (pd_ix (pd_ix (pdv 6) (pdv 5)) pd_int) (pad_cons (pd_ix (pd_ix (pdv 6) (pdv 5)) pd_int) pad_nil)))))
      (pssd_one (psd_ret (pd_index (hu65_of hr) (pdv 6) (pd_tup (pad_cons (pd_ix (pdv 7) (pd_ix (pd_ix (pdv 6) (pdv 4)) pd_int)) (pad_cons (pd_ix (pdv 7) (pd_ix (pd_ix (pdv 6) (pdv 4)) pd_int)) pad_nil))))))))))))⟩
theorem sc__law_table : FnScope N__law_table ["draws"] (defScope s__law_table) := ⟨rfl, rfl, rfl, by decide +kernel, rfl, by decide +kernel, by decide +kernel⟩
theorem has__law_table (T : Txt K mg) (A : At K mg "_law_table" s__law_table ["draws"]) (h__law_sum : HasD P w K mg base 2 "_law_sum" ["kind", "width", "x", "y"] m__law_sum) (h__law_times : HasD P w K mg base 2 "_law_times" ["kind", "width", "size", "turn", "x", "y"] m__law_times) : HasD P w K mg base 3 "_law_table" ["draws"] m__law_table :=
  At.hasD (k := 2) A sc__law_table fun I f cdv Ar outer s H E hr => ⟨_, (pssd_cons (psd_set (i := 1) sc__law_table.nd (pd_op op_mod dr_mod (pd_callT cr_int dc_int T.b_int PyProof.Rows.boot_int (pad_cons (pd_ix (pdv 0) pd_int) pad_nil)) pd_int))
      (pssd_cons (psd_set (i := 2) sc__law_table.nd (pd_op op_mod dr_mod (pd_callT cr_int dc_int T.b_int PyProof.Rows.boot_int (pad_cons (pd_ix (pdv 0) pd_int) pad_nil)) pd_int))
      (pssd_cons (psd_set (i := 3) sc__law_table.nd pd_int)
      (pssd_cons (psd_if (ptd_cmp op_eq dr_eq (pdv 1) pd_int) (pssd_one (psd_set (i := 3) sc__law_table.nd (pd_op op_addA dr_add pd_int (pd_op op_mod dr_mod (pd_callT cr_int dc_int T.b_int PyProof.Rows.boot_int (pad_cons (pd_ix (pdv 0) pd_int) pad_nil)) pd_int)))) pssd_nil)
      (pssd_cons (psd_set (i := 4) sc__law_table.nd (pd_op op_addA dr_add pd_int (pd_op op_mod dr_mod (pd_callT cr_int dc_int T.b_int PyProof.Rows.boot_int (pad_cons (pd_ix (pdv 0) pd_int) pad_nil)) pd_int)))
      (pssd_cons (psd_set (i := 5) sc__law_table.nd (pd_ix (pd_tup (pad_cons (pd_op op_addA dr_add pd_int (pd_op op_mod dr_mod (pd_callT cr_int dc_int T.b_int PyProof.Rows.boot_int (pad_cons (pd_ix (pdv 0) pd_int) pad_nil)) pd_int)) (pad_cons (pdv 4) (pad_cons (pdv 4) (pad_cons pd_int (pad_cons pd_int (pad_cons (pd_op op_mul dr_mul pd_int (pdv 3)) (pad_cons pd_int pad_nil)))))))) (pdv 1)))
      (pssd_cons (psd_set (i := 6) sc__law_table.nd (pd_ix (pd_tup (pad_cons (pd_op op_sub dr_sub (pdv 5) pd_int) (pad_cons pd_int (pad_cons pd_int (pad_cons pd_int (pad_cons pd_int (pad_cons (pd_op op_sub dr_sub (pdv 5) pd_int) (pad_cons pd_int pad_nil)))))))) (pdv 1)))
      (pssd_cons (psd_setO (i := 7) sc__law_table.nd (pf_lst pad_nil))
      (pssd_cons (psd_for PassesOwn.never rfl (pid_range1 T.b_range (pad_cons (pdv 5) pad_nil)) (pgd_name (i := 8) sc__law_table.nd) (pssd_one (psd_insert 7 (pd_op op_mod dr_mod (pd_callT cr_int dc_int T.b_int PyProof.Rows.boot_int (pad_cons (pd_ix (pdv 0) (pd_op op_addA dr_add pd_int (pdv 8))) pad_nil)) (pd_op op_addA dr_add (pdv 8) pd_int)) (pdv 8))))
      (pssd_cons (psd_setO (i := 9) sc__law_table.nd (pf_lst pad_nil))
      (pssd_cons (psd_setO (i := 10) sc__law_table.nd (pf_lst pad_nil))
      (pssd_cons (psd_for PassesOwn.never rfl (pid_range1 T.b_range (pad_cons (pdv 5) pad_nil)) (pgd_name (i := 11) sc__law_table.nd) (pssd_cons (psd_set (i := 12) sc__law_table.nd (pd_indexO (hu65_of hr) (i := 7) (pdv 11)))
      (pssd_cons (psd_setO (i := 13) sc__law_table.nd (pf_lst pad_nil))
      (pssd_cons (psd_setO (i := 14) sc__law_table.nd (pf_lst pad_nil))
      (pssd_cons (psd_for PassesOwn.never rfl (pid_range1 T.b_range (pad_cons (pdv 5) pad_nil)) (pgd_name (i := 15) sc__law_table.nd) (pssd_cons (psd_set (i := 16) sc__law_table.nd (pd_indexO (hu65_of hr) (i := 7) (pdv 15)))
      (pssd_cons (psd_append 13 (pd_ixO (i := 7) rfl (by first | exact Or.inl rfl | exact Or.inr (Or.inl rfl) | exact Or.inr (Or.inr rfl)) (pd_callD h__law_sum hr (pad_cons (pdv 1) (pad_cons (pdv 3) (pad_cons (pdv 12) (pad_cons (pdv 16) pad_nil)))))))
      (pssd_one (psd_if (ptd_cmp op_eq dr_eq (pd_op op_mod dr_mod (pd_callT cr_int dc_int T.b_int PyProof.Rows.boot_int (pad_cons (pd_ix (pdv 0) pd_int) pad_nil)) pd_int) pd_int) (pssd_one (psd_append 14 (pd_ixO (i := 7) rfl (by first | exact Or.inl rfl | exact Or.inr (Or.inl rfl) | exact Or.inr (Or.inr rfl)) (pd_callD h__law_times hr (pad_cons (pdv 1) (pad_cons (pdv 3) (pad_cons (pdv 5) (pad_cons (pdv 2) (pad_cons (pdv 12) (pad_cons (pdv 16) pad_nil)))))))))) (pssd_one (psd_append 14 (pd_ixO (i := 7) rfl (by first | exact Or.inl rfl | exact Or.inr (Or.inl rfl) | exact Or.inr (Or.inr rfl)) (pd_callD h__law_times hr (pad_cons (pdv 1) (pad_cons (pdv 3) (pad_cons (pdv 5) (pad_cons (pdv 2) (pad_cons (pdv 16) (pad_cons (pdv 12) pad_nil)))))))))))))))
      (pssd_cons (psd_append 9 (pd_callTO cr_tuple dco_tuple T.b_tuple PyProof.Rows.boot_tuple (plv 13)))
      (pssd_one (psd_append 10 (pd_callTO cr_tuple dco_tuple T.b_tuple PyProof.Rows.boot_tuple (plv 14))))))))))
      (pssd_one (psd_ret (pd_tup (pad_cons (pd_callTO cr_tuple dco_tuple T.b_tuple PyProof.Rows.boot_tuple (plv 9)) (pad_cons (pd_callTO cr_tuple dco_tuple T.b_tuple PyProof.Rows.boot_tuple (plv 10)) (pad_cons (pd_ixO (i := 7) rfl (by first | exact Or.inl rfl | exact Or.inr (Or.inl rfl) | exact Or.inr (Or.inr rfl)) pd_int) (pad_cons (pd_ixO (i := 7) rfl (by first | exact Or.inl rfl | exact Or.inr (Or.inl rfl) | exact Or.inr (Or.inr rfl)) (pdv 6)) pad_nil)))))))))))))))))))⟩
theorem sc__law_changed : FnScope N__law_changed ["table", "which", "i", "j", "thing"] (defScope s__law_changed) := ⟨rfl, rfl, rfl, by decide +kernel, rfl, by decide +kernel, by decide +kernel⟩
theorem has__law_changed (T : Txt K mg) (A : At K mg "_law_changed" s__law_changed ["table", "which", "i", "j", "thing"]) : HasD P w K mg base 1 "_law_changed" ["table", "which", "i", "j", "thing"] m__law_changed :=
  At.hasD (k := 0) A sc__law_changed fun I f cdv Ar outer s H E hr => ⟨_, (pssd_cons (psd_set (i := 5) sc__law_changed.nd (pd_op op_addA dr_add (pd_op op_addA dr_add (pd_slice (pd_ix (pd_ix (pdv 0) (pdv 1)) (pdv 2)) pod_none (pod_some (pdv 3))) (pd_tup (pad_cons (pdv 4) pad_nil))) (pd_slice (pd_ix (pd_ix (pdv 0) (pdv 1)) (pdv 2)) (pod_some (pd_op op_addA dr_add (pdv 3) pd_int)) pod_none)))
      (pssd_cons (psd_set (i := 6) sc__law_changed.nd (pd_op op_addA dr_add (pd_op op_addA dr_add (pd_slice (pd_ix (pdv 0) (pdv 1)) pod_none (pod_some (pdv 2))) (pd_tup (pad_cons (pdv 5) pad_nil))) (pd_slice (pd_ix (pdv 0) (pdv 1)) (pod_some (pd_op op_addA dr_add (pdv 2) pd_int)) pod_none)))
      (pssd_cons (psd_if (ptd_cmp op_eq dr_eq (pdv 1) pd_int) (pssd_one (psd_ret (pd_tup (pad_cons (pdv 6) (pad_cons (pd_ix (pdv 0) pd_int) (pad_cons (pd_ix (pdv 0) pd_int) (pad_cons (pd_ix (pdv 0) pd_int) pad_nil))))))) pssd_nil)
      (pssd_one (psd_ret (pd_tup (pad_cons (pd_ix (pdv 0) pd_int) (pad_cons (pdv 6) (pad_cons (pd_ix (pdv 0) pd_int) (pad_cons (pd_ix (pdv 0) pd_int) pad_nil))))))))))⟩
theorem sc__law_bent : FnScope N__law_bent ["table", "draws"] (defScope s__law_bent) := ⟨rfl, rfl, rfl, by decide +kernel, rfl, by decide +kernel, by decide +kernel⟩
theorem has__law_bent (T : Txt K mg) (A : At K mg "_law_bent" s__law_bent ["table", "draws"]) (h__law_changed : HasD P w K mg base 1 "_law_changed" ["table", "which", "i", "j", "thing"] m__law_changed) : HasD P w K mg base 2 "_law_bent" ["table", "draws"] m__law_bent :=
  At.hasD (k := 1) A sc__law_bent fun I f cdv Ar outer s H E hr => ⟨_, (pssd_cons (psd_set (i := 2) sc__law_bent.nd (pd_callB cr_len dc_len T.b_len PySem.boot_len (pad_cons (pd_ix (pdv 0) pd_int) pad_nil)))
      (pssd_cons (psd_set (i := 3) sc__law_bent.nd (pd_op op_mod dr_mod (pd_callT cr_int dc_int T.b_int PyProof.Rows.boot_int (pad_cons (pd_ix (pdv 1) pd_int) pad_nil)) pd_int))
      (pssd_cons (psd_if (ptd_cmp op_eq dr_eq (pdv 3) pd_int) (pssd_one (psd_ret (pd_tup (pad_cons (pd_ix (pdv 0) pd_int) (pad_cons (pd_ix (pdv 0) pd_int) (pad_cons (pd_op op_mod dr_mod (pd_callT cr_int dc_int T.b_int PyProof.Rows.boot_int (pad_cons (pd_ix (pdv 1) pd_int) pad_nil)) (pdv 2)) (pad_cons (pd_ix (pdv 0) pd_int) pad_nil))))))) pssd_nil)
      (pssd_cons (psd_if (ptd_cmp op_eq dr_eq (pdv 3) pd_int) (pssd_one (psd_ret (pd_tup (pad_cons (pd_ix (pdv 0) pd_int) (pad_cons (pd_ix (pdv 0) pd_int) (pad_cons (pd_ix (pdv 0) pd_int) (pad_cons (pd_op op_mod dr_mod (pd_callT cr_int dc_int T.b_int PyProof.Rows.boot_int (pad_cons (pd_ix (pdv 1) pd_int) pad_nil)) (pdv 2)) pad_nil))))))) pssd_nil)
      (pssd_cons (psd_set (i := 4) sc__law_bent.nd (pdv 0))
      (pssd_cons (psd_for PassesOwn.never rfl (pid_range1 T.b_range (pad_cons (pd_op op_addA dr_add pd_int (pd_op op_mod dr_mod (pd_callT cr_int dc_int T.b_int PyProof.Rows.boot_int (pad_cons (pd_op op_fdiv dr_fdiv (pd_ix (pdv 1) pd_int) pd_int) pad_nil)) pd_int)) pad_nil)) (pgd_name (i := 5) sc__law_bent.nd) (pssd_cons (psd_set (i := 6) sc__law_bent.nd (pd_op op_mod dr_mod (pd_callT cr_int dc_int T.b_int PyProof.Rows.boot_int (pad_cons (pd_ix (pdv 1) (pd_op op_addA dr_add (pd_op op_mul dr_mul pd_int (pdv 5)) pd_int)) pad_nil)) pd_int))
      (pssd_cons (psd_set (i := 7) sc__law_bent.nd (pd_op op_mod dr_mod (pd_callT cr_int dc_int T.b_int PyProof.Rows.boot_int (pad_cons (pd_ix (pdv 1) (pd_op op_addA dr_add (pd_op op_mul dr_mul pd_int (pdv 5)) pd_int)) pad_nil)) (pdv 2)))
      (pssd_cons (psd_set (i := 8) sc__law_bent.nd (pd_op op_mod dr_mod (pd_callT cr_int dc_int T.b_int PyProof.Rows.boot_int (pad_cons (pd_ix (pdv 1) (pd_op op_addA dr_add (pd_op op_mul dr_mul pd_int (pdv 5)) pd_int)) pad_nil)) (pdv 2)))
      (pssd_cons (psd_set (i := 9) sc__law_bent.nd (pd_op op_mod dr_mod (pd_callT cr_int dc_int T.b_int PyProof.Rows.boot_int (pad_cons (pd_ix (pdv 1) (pd_op op_addA dr_add (pd_op op_mul dr_mul pd_int (pdv 5)) pd_int)) pad_nil)) (pdv 2)))
      (pssd_cons (psd_set (i := 4) sc__law_bent.nd (pd_callD h__law_changed hr (pad_cons (pdv 4) (pad_cons (pdv 6) (pad_cons (pdv 7) (pad_cons (pdv 8) (pad_cons (pdv 9) pad_nil)))))))
      (pssd_one (psd_if (ptd_cmp op_lt dr_lt (pdv 3) pd_int) (pssd_one (psd_set (i := 4) sc__law_bent.nd (pd_callD h__law_changed hr (pad_cons (pdv 4) (pad_cons (pdv 6) (pad_cons (pdv 8) (pad_cons (pdv 7) (pad_cons (pdv 9) pad_nil)))))))) pssd_nil))))))))
      (pssd_one (psd_ret (pdv 4)))))))))⟩
theorem sc__law_things : FnScope N__law_things ["size", "many"] (defScope s__law_things) := ⟨rfl, rfl, rfl, by decide +kernel, rfl, by decide +kernel, by decide +kernel⟩
theorem has__law_things (T : Txt K mg) (A : At K mg "_law_things" s__law_things ["size", "many"]) : HasD P w K mg base 1 "_law_things" ["size", "many"] m__law_things :=
  At.hasD (k := 0) A sc__law_things fun I f cdv Ar outer s H E hr => ⟨_, (pssd_cons (psd_set (i := 2) sc__law_things.nd ((pf_lst (pad_cons (pd_tup pad_nil) pad_nil))).pd)
      (pssd_cons (psd_for PassesOwn.never rfl (pid_range1 T.b_range (pad_cons (pdv 1) pad_nil)) (pgd_name (i := 3) sc__law_things.nd) (pssd_cons (psd_set (i := 4) sc__law_things.nd ((pf_lst pad_nil)).pd)
      (pssd_cons (psd_for PassesOwn.never rfl (pid_any (pdv 2)) (pgd_name (i := 5) sc__law_things.nd) (pssd_one (psd_set (i := 4) sc__law_things.nd (pd_op op_addA dr_add (pdv 4) ((pf_lc (own := [("thing", 6)]) rfl sc__law_things.nd (pid_range1 T.b_range (pad_cons (pdv 0) pad_nil)) (blkOk_by (own := [("thing", 6)]) (N := N__law_things) (sc := defScope s__law_things) (by decide +kernel)) (fun _ _ _ _ _ => (pgd_name (i := 6) sc__law_things.nd)) (fun _ _ _ _ _ => ptsd_nil) (fun _ _ _ _ _ => (pd_op op_addA dr_add (pdv 5) (pd_tup (pad_cons (pdv 6) pad_nil)))))).pd))))
      (pssd_one (psd_set (i := 2) sc__law_things.nd (pdv 4))))))
      (pssd_one (psd_ret (pdv 2)))))⟩
theorem sc__law_fails : FnScope N__law_fails ["table", "rule", "things"] (defScope s__law_fails) := ⟨rfl, rfl, rfl, by decide +kernel, rfl, by decide +kernel, by decide +kernel⟩
theorem has__law_fails (T : Txt K mg) (A : At K mg "_law_fails" s__law_fails ["table", "rule", "things"]) : HasD P w K mg base 1 "_law_fails" ["table", "rule", "things"] m__law_fails :=
  At.hasD (k := 0) A sc__law_fails fun I f cdv Ar outer s H E hr => ⟨_, (pssd_cons (psd_set (i := 3) sc__law_fails.nd (pd_ix (pdv 0) pd_int))
      (pssd_cons (psd_set (i := 4) sc__law_fails.nd (pd_ix (pdv 0) pd_int))
      (pssd_cons (psd_set (i := 5) sc__law_fails.nd (pd_ix (pdv 0) pd_int))
      (pssd_cons (psd_set (i := 6) sc__law_fails.nd (pd_ix (pdv 0) pd_int))
      (pssd_cons (psd_set (i := 7) sc__law_fails.nd (pd_ix (pdv 2) pd_int))
      (pssd_cons (psd_set (i := 8) sc__law_fails.nd (pd_ix (pdv 2) (pd_op op_fdiv dr_fdiv (pd_callB cr_len dc_len T.b_len PySem.boot_len (pad_cons (pdv 2) pad_nil)) pd_int)))
      (pssd_cons (psd_set (i := 9) sc__law_fails.nd (pd_ix (pdv 2) (pd_neg pd_int)))
      (pssd_cons (psd_if (ptd_cmp op_eq dr_eq (pdv 1) pd_str) (pssd_one (psd_ret (pd_cmp op_ne dr_ne (pd_ix (pd_ix (pdv 3) (pdv 5)) (pdv 7)) (pdv 7)))) pssd_nil)
      (pssd_cons (psd_if (ptd_cmp op_eq dr_eq (pdv 1) pd_str) (pssd_one (psd_ret (pd_cmp op_ne dr_ne (pd_ix (pd_ix (pdv 3) (pdv 7)) (pdv 7)) (pdv 7)))) pssd_nil)
      (pssd_cons (psd_if (ptd_cmp op_eq dr_eq (pdv 1) pd_str) (pssd_one (psd_ret (pd_cmp op_ne dr_ne (pd_ix (pd_ix (pdv 3) (pdv 7)) (pdv 8)) (pd_ix (pd_ix (pdv 3) (pdv 8)) (pdv 7))))) pssd_nil)
      (pssd_cons (psd_if (ptd_cmp op_eq dr_eq (pdv 1) pd_str) (pssd_one (psd_ret (pd_cmp op_ne dr_ne (pd_ix (pd_ix (pdv 3) (pd_ix (pd_ix (pdv 3) (pdv 7)) (pdv 8))) (pdv 9)) (pd_ix (pd_ix (pdv 3) (pdv 7)) (pd_ix (pd_ix (pdv 3) (pdv 8)) (pdv 9)))))) pssd_nil)
      (pssd_cons (psd_if (ptd_cmp op_eq dr_eq (pdv 1) pd_str) (pssd_one (psd_ret (pd_or (pd_cmp op_ne dr_ne (pd_ix (pd_ix (pdv 4) (pdv 6)) (pdv 7)) (pdv 7)) (pd_one (pd_cmp op_ne dr_ne (pd_ix (pd_ix (pdv 4) (pdv 7)) (pdv 6)) (pdv 7)))))) pssd_nil)
      (pssd_cons (psd_if (ptd_cmp op_eq dr_eq (pdv 1) pd_str) (pssd_one (psd_ret (pd_or (pd_cmp op_ne dr_ne (pd_ix (pd_ix (pdv 4) (pdv 5)) (pdv 7)) (pdv 5)) (pd_one (pd_cmp op_ne dr_ne (pd_ix (pd_ix (pdv 4) (pdv 7)) (pdv 5)) (pdv 5)))))) pssd_nil)
      (pssd_cons (psd_if (ptd_cmp op_eq dr_eq (pdv 1) pd_str) (pssd_one (psd_ret (pd_cmp op_ne dr_ne (pd_ix (pd_ix (pdv 4) (pd_ix (pd_ix (pdv 4) (pdv 7)) (pdv 8))) (pdv 9)) (pd_ix (pd_ix (pdv 4) (pdv 7)) (pd_ix (pd_ix (pdv 4) (pdv 8)) (pdv 9)))))) pssd_nil)
      (pssd_cons (psd_if (ptd_cmp op_eq dr_eq (pdv 1) pd_str) (pssd_one (psd_ret (pd_cmp op_ne dr_ne (pd_ix (pd_ix (pdv 4) (pdv 7)) (pd_ix (pd_ix (pdv 3) (pdv 8)) (pdv 9))) (pd_ix (pd_ix (pdv 3) (pd_ix (pd_ix (pdv 4) (pdv 7)) (pdv 8))) (pd_ix (pd_ix (pdv 4) (pdv 7)) (pdv 9)))))) pssd_nil)
      (pssd_one (psd_ret (pd_cmp op_ne dr_ne (pd_ix (pd_ix (pdv 4) (pd_ix (pd_ix (pdv 3) (pdv 7)) (pdv 8))) (pdv 9)) (pd_ix (pd_ix (pdv 3) (pd_ix (pd_ix (pdv 4) (pdv 7)) (pdv 9))) (pd_ix (pd_ix (pdv 4) (pdv 8)) (pdv 9)))))))))))))))))))))⟩
theorem sc__law_broken : FnScope N__law_broken ["table"] (defScope s__law_broken) := ⟨rfl, rfl, rfl, by decide +kernel, rfl, by decide +kernel, by decide +kernel⟩
theorem has__law_broken (T : Txt K mg) (A : At K mg "_law_broken" s__law_broken ["table"]) (h__law_things : HasD P w K mg base 1 "_law_things" ["size", "many"] m__law_things) (h__law_fails : HasD P w K mg base 1 "_law_fails" ["table", "rule", "things"] m__law_fails) : HasD P w K mg base 2 "_law_broken" ["table"] m__law_broken :=
  At.hasD (k := 1) A sc__law_broken fun I f cdv Ar outer s H E hr => ⟨_, (pssd_cons (psd_set (i := 1) sc__law_broken.nd ((pf_lst (pad_cons (pd_tup (pad_cons pd_str (pad_cons pd_int pad_nil))) (pad_cons (pd_tup (pad_cons pd_str (pad_cons pd_int pad_nil))) (pad_cons (pd_tup (pad_cons pd_str (pad_cons pd_int pad_nil))) (pad_cons (pd_tup (pad_cons pd_str (pad_cons pd_int pad_nil))) (pad_cons (pd_tup (pad_cons pd_str (pad_cons pd_int pad_nil))) (pad_cons (pd_tup (pad_cons pd_str (pad_cons pd_int pad_nil))) (pad_cons (pd_tup (pad_cons pd_str (pad_cons pd_int pad_nil))) (pad_cons (pd_tup (pad_cons pd_str (pad_cons pd_int pad_nil))) pad_nil)))))))))).pd)
      (pssd_cons (psd_for PassesOwn.never rfl (pid_any (pd_op op_addA dr_add (pdv 1) ((pf_lst (pad_cons (pd_tup (pad_cons pd_str (pad_cons pd_int pad_nil))) pad_nil))).pd)) (pgd_name (i := 2) sc__law_broken.nd) (pssd_one (psd_for PassesOwn.never rfl (pid_any (pd_callD h__law_things hr (pad_cons (pd_callB cr_len dc_len T.b_len PySem.boot_len (pad_cons (pd_ix (pdv 0) pd_int) pad_nil)) (pad_cons (pd_ix (pdv 2) pd_int) pad_nil)))) (pgd_name (i := 3) sc__law_broken.nd) (pssd_one (psd_if (ptd_truth (pd_callD h__law_fails hr (pad_cons (pdv 0) (pad_cons (pd_ix (pdv 2) pd_int) (pad_cons (pdv 3) pad_nil))))) (pssd_one (psd_ret (pd_tup (pad_cons (pd_ix (pdv 2) pd_int) (pad_cons (pdv 3) pad_nil))))) pssd_nil)))))
      (pssd_one (psd_ret (pd_tup pad_nil)))))⟩
theorem sc__all_things : FnScope N__all_things ["size", "many"] (defScope s__all_things) := ⟨rfl, rfl, rfl, by decide +kernel, rfl, by decide +kernel, by decide +kernel⟩
theorem has__all_things (T : Txt K mg) (A : At K mg "_all_things" s__all_things ["size", "many"]) : HasD P w K mg base 1 "_all_things" ["size", "many"] m__all_things :=
  At.hasD (k := 0) A sc__all_things fun I f cdv Ar outer s H E hr => ⟨_, (pssd_cons (psd_set (i := 2) sc__all_things.nd ((pf_lst (pad_cons (pd_tup pad_nil) pad_nil))).pd)
      (pssd_cons (psd_for PassesOwn.never rfl (pid_range1 T.b_range (pad_cons (pdv 1) pad_nil)) (pgd_name (i := 3) sc__all_things.nd) (pssd_one (psd_setLc2 (i := 2) (own := [("one", 4), ("thing", 5)]) (vs1 := [5]) rfl sc__all_things.nd (sw_true rfl rfl rfl (by decide +kernel)) (pid_any (pdv 2)) (blkOk_by (own := [("one", 4), ("thing", 5)]) (N := N__all_things) (sc := defScope s__all_things) (by decide +kernel)) (fun _ _ _ _ _ => (pgd_name (i := 4) sc__all_things.nd)) (fun _ _ _ _ _ => ptsd_nil) (fun _ _ _ _ _ => (pid_range1 T.b_range (pad_cons (pdv 0) pad_nil))) (fun _ _ _ _ _ => (pgd_name (i := 5) sc__all_things.nd)) (fun _ _ _ _ _ => ptsd_nil) (fun _ _ _ _ _ => (pd_op op_addA dr_add (pdv 4) (pd_tup (pad_cons (pdv 5) pad_nil)))))))
      (pssd_one (psd_ret (pdv 2)))))⟩
theorem sc__holds : FnScope N__holds ["table", "rule", "things"] (defScope s__holds) := ⟨rfl, rfl, rfl, by decide +kernel, rfl, by decide +kernel, by decide +kernel⟩
theorem has__holds (T : Txt K mg) (Z : Fx K mg) (A : At K mg "_holds" s__holds ["table", "rule", "things"]) : HasS P w K mg base 1 "_holds" ["table", "rule", "things"] m__holds :=
  At.hasS (k := 0) A sc__holds fun f cdv Ar outer s H E hr => ⟨_, (pss2_cons (ps2_lift fun I => (psd_asgT (pdv 0) (pgd_tup rfl (pgsd_cons (pgd_name (i := 3) sc__holds.nd) (pgsd_cons (pgd_name (i := 4) sc__holds.nd) (pgsd_cons (pgd_name (i := 5) sc__holds.nd) (pgsd_cons (pgd_name (i := 6) sc__holds.nd) pgsd_nil)))))))
      (pss2_cons (ps2_match sc__holds.nd (pe2_lift fun I => (pd_tup (pad_cons (pdv 1) (pad_cons (pdv 2) pad_nil))))
      (CasesOk.cons (pm_seq rfl (pms_cons pm_str (pms_cons (pm_seq rfl (pms_cons (pm_cap (i := 7)) pms_nil)) pms_nil))) (pss2_one (ps2_lift fun I => (psd_ret (pd_cmp op_eq dr_eq (pd_ix (pd_ix (pdv 3) (pdv 5)) (pdv 7)) (pdv 7)))))
      (CasesOk.cons (pm_seq rfl (pms_cons pm_str (pms_cons (pm_seq rfl (pms_cons (pm_cap (i := 7)) pms_nil)) pms_nil))) (pss2_one (ps2_lift fun I => (psd_ret (pd_cmp op_eq dr_eq (pd_ix (pd_ix (pdv 3) (pdv 7)) (pdv 7)) (pdv 7)))))
      (CasesOk.cons (pm_seq rfl (pms_cons pm_str (pms_cons (pm_seq rfl (pms_cons (pm_cap (i := 7)) (pms_cons (pm_cap (i := 8)) pms_nil))) pms_nil))) (pss2_one (ps2_lift fun I => (psd_ret (pd_cmp op_eq dr_eq (pd_ix (pd_ix (pdv 3) (pdv 7)) (pdv 8)) (pd_ix (pd_ix (pdv 3) (pdv 8)) (pdv 7))))))
      (CasesOk.cons (pm_seq rfl (pms_cons pm_str (pms_cons (pm_seq rfl (pms_cons (pm_cap (i := 7)) (pms_cons (pm_cap (i := 8)) (pms_cons (pm_cap (i := 9)) pms_nil)))) pms_nil))) (pss2_one (ps2_lift fun I => (psd_ret (pd_cmp op_eq dr_eq (pd_ix (pd_ix (pdv 3) (pd_ix (pd_ix (pdv 3) (pdv 7)) (pdv 8))) (pdv 9)) (pd_ix (pd_ix (pdv 3) (pdv 7)) (pd_ix (pd_ix (pdv 3) (pdv 8)) (pdv 9)))))))
      (CasesOk.cons (pm_seq rfl (pms_cons pm_str (pms_cons (pm_seq rfl (pms_cons (pm_cap (i := 7)) pms_nil)) pms_nil))) (pss2_one (ps2_lift fun I => (psd_ret (pd_and (pd_cmp op_eq dr_eq (pd_ix (pd_ix (pdv 4) (pdv 6)) (pdv 7)) (pdv 7)) (pd_one (pd_cmp op_eq dr_eq (pd_ix (pd_ix (pdv 4) (pdv 7)) (pdv 6)) (pdv 7)))))))
      (CasesOk.cons (pm_seq rfl (pms_cons pm_str (pms_cons (pm_seq rfl (pms_cons (pm_cap (i := 7)) pms_nil)) pms_nil))) (pss2_one (ps2_lift fun I => (psd_ret (pd_and (pd_cmp op_eq dr_eq (pd_ix (pd_ix (pdv 4) (pdv 5)) (pdv 7)) (pdv 5)) (pd_one (pd_cmp op_eq dr_eq (pd_ix (pd_ix (pdv 4) (pdv 7)) (pdv 5)) (pdv 5)))))))
      (CasesOk.cons (pm_seq rfl (pms_cons pm_str (pms_cons (pm_seq rfl (pms_cons (pm_cap (i := 7)) (pms_cons (pm_cap (i := 8)) (pms_cons (pm_cap (i := 9)) pms_nil)))) pms_nil))) (pss2_one (ps2_lift fun I => (psd_ret (pd_cmp op_eq dr_eq (pd_ix (pd_ix (pdv 4) (pd_ix (pd_ix (pdv 4) (pdv 7)) (pdv 8))) (pdv 9)) (pd_ix (pd_ix (pdv 4) (pdv 7)) (pd_ix (pd_ix (pdv 4) (pdv 8)) (pdv 9)))))))
      (CasesOk.cons (pm_seq rfl (pms_cons pm_str (pms_cons (pm_seq rfl (pms_cons (pm_cap (i := 7)) (pms_cons (pm_cap (i := 8)) (pms_cons (pm_cap (i := 9)) pms_nil)))) pms_nil))) (pss2_one (ps2_lift fun I => (psd_ret (pd_cmp op_eq dr_eq (pd_ix (pd_ix (pdv 4) (pdv 7)) (pd_ix (pd_ix (pdv 3) (pdv 8)) (pdv 9))) (pd_ix (pd_ix (pdv 3) (pd_ix (pd_ix (pdv 4) (pdv 7)) (pdv 8))) (pd_ix (pd_ix (pdv 4) (pdv 7)) (pdv 9)))))))
      (CasesOk.cons (pm_seq rfl (pms_cons pm_str (pms_cons (pm_seq rfl (pms_cons (pm_cap (i := 7)) (pms_cons (pm_cap (i := 8)) (pms_cons (pm_cap (i := 9)) pms_nil)))) pms_nil))) (pss2_one (ps2_lift fun I => (psd_ret (pd_cmp op_eq dr_eq (pd_ix (pd_ix (pdv 4) (pd_ix (pd_ix (pdv 3) (pdv 7)) (pdv 8))) (pdv 9)) (pd_ix (pd_ix (pdv 3) (pd_ix (pd_ix (pdv 4) (pdv 7)) (pdv 9))) (pd_ix (pd_ix (pdv 4) (pdv 8)) (pdv 9)))))))
      CasesOk.nil))))))))))
      (pss2_one (ps2_lift fun I => (psd_ret pd_bl)))))⟩
theorem sc_check_table : FnScope N_check_table ["table"] (defScope s_check_table) := ⟨rfl, rfl, rfl, by decide +kernel, rfl, by decide +kernel, by decide +kernel⟩
theorem has_check_table (T : Txt K mg) (Z : Fx K mg) (A : At K mg "check_table" s_check_table ["table"]) (h__all_things : HasD P w K mg base 1 "_all_things" ["size", "many"] m__all_things) (h__holds : HasS P w K mg base 1 "_holds" ["table", "rule", "things"] m__holds) (h_BadTable___init__ : HasE P w K mg base 1 "BadTable" CA.BadTable ns_BadTable ge_BadTable) : HasS P w K mg base 3 "check_table" ["table"] m_check_table :=
  At.hasS (k := 2) A sc_check_table fun f cdv Ar outer s H E hr => ⟨_, (pss2_one (ps2_for PassesOwn.leaving rfl (pi2_lift fun I => (pid_any (pd_ktup (T.k_RULES.choose_spec.2 I) T.k_RULES.choose_spec.1))) (fun I => (pgd_tup rfl (pgsd_cons (pgd_name (i := 1) sc_check_table.nd) (pgsd_cons (pgd_name (i := 2) sc_check_table.nd) pgsd_nil))))
      (pss2_one (ps2_for PassesOwn.leaving rfl (pi2_lift fun I => (pid_any (pd_callD h__all_things hr (pad_cons (pd_callB cr_len dc_len T.b_len PySem.boot_len (pad_cons (pd_ix (pdv 0) pd_int) pad_nil)) (pad_cons (pdv 2) pad_nil))))) (fun I => (pgd_name (i := 3) sc_check_table.nd))
      (pss2_one (ps2_if (pt2_not (pt2_val (p2_call h__holds tkS hr (pa2_lift fun I => (pad_cons (pdv 0) (pad_cons (pdv 1) (pad_cons (pdv 3) pad_nil)))) (by decide))))
      (pss2_one (ps2_raiseH h_BadTable___init__ hr rfl tkS (pa2_lift fun I => (pad_cons (pdv 1) (pad_cons (pdv 3) pad_nil))) (by decide)))
      pss2_nil))))))⟩
theorem sc__law_judged : FnScope N__law_judged ["table"] (defScope s__law_judged) := ⟨rfl, rfl, rfl, by decide +kernel, rfl, by decide +kernel, by decide +kernel⟩
theorem has__law_judged (T : Txt K mg) (Z : Fx K mg) (A : At K mg "_law_judged" s__law_judged ["table"]) (h_check_table : HasS P w K mg base 3 "check_table" ["table"] m_check_table) : HasS P w K mg base 4 "_law_judged" ["table"] m__law_judged :=
  At.hasS (k := 3) A sc__law_judged fun f cdv Ar outer s H E hr => ⟨_, (pss2_cons (ps2_try rfl rfl rfl sc__law_judged.nd tkS (try_of fun W pn xe tk hp => ⟨_, (pss2_one (ps2_if (pt2_cmp1 (haveI : Iota := ⟨[]⟩; op_isN) (fun _ => dr_isN) (p2_call h_check_table tk hr (pa2_lift fun I => (pad_cons (pdv 0) pad_nil)) (by decide)) (pe2_lift fun I => pd_non))
      (pss2_one (ps2_lift fun I => (psd_ret (pd_tup pad_nil))))
      pss2_nil))⟩)
      (HdOk2.cons (c := .ref CA.BadTable) (i := 1) (yes := [CA.BadTable]) (no := []) ⟨rfl, by decide, .inl Z.g_BadTable⟩ rfl rfl (all_cons Z.exm_BadTable_BadTable (fun _ h => nomatch h)) (fun _ h => nomatch h) (suite_of fun a pn => ⟨_, (pss2_cons (ps2_if ((pw2_or (pt2_not (pt2_val (p2_isE (.clr CA.Fault) [CA.BadTable] [] T.b_isinstance (pe2_lift fun I => (pdv 1)) (pe2_lift fun I => (pd_cls Z.g_Fault)) (fun ρ S d S' h => (of_zL rfl h).1) (all_cons ⟨Z.ExcC_BadTable, Z.kit_BadTable_Fault⟩ (fun _ h => nomatch h)) (fun _ h => nomatch h)))) (pw2_or1 (pt2_not (pt2_val (p2_isE (.ty "ValueError") [CA.BadTable] [] T.b_isinstance (pe2_lift fun I => (pdv 1)) (pe2_lift fun I => (pd_bty T.b_ValueError (by first | boot_by_name | rfl | kernel_rfl))) (fun ρ S d S' h => (of_zL rfl h).1) (all_cons ⟨Z.ExcC_BadTable, Z.kit_BadTable_ValueError⟩ (fun _ h => nomatch h)) (fun _ h => nomatch h))))))).pt
      (pss2_one (ps2_lift fun I => (psd_ret (pd_tup (pad_cons pd_str pad_nil)))))
      pss2_nil)
      (pss2_cons (ps2_if (pt2_val (p2_isE (.tup [(.clr CA.BadChance), (.clr CA.BadFlow), (.clr CA.BadWeight), (.clr CA.Clash), (.clr CA.NotSound), (.clr CA.TooMany)]) [] [CA.BadTable] T.b_isinstance (pe2_lift fun I => (pdv 1)) (pe2_lift fun I => (pd_tup (pad_cons (pd_cls Z.g_BadChance) (pad_cons (pd_cls Z.g_BadFlow) (pad_cons (pd_cls Z.g_BadWeight) (pad_cons (pd_cls Z.g_Clash) (pad_cons (pd_cls Z.g_NotSound) (pad_cons (pd_cls Z.g_TooMany) pad_nil)))))))) (fun ρ S d S' h => (of_zL rfl h).1) (fun _ h => nomatch h) (all_cons ⟨Z.ExcC_BadTable, Z.kit_BadTable_BadChance_BadFlow_BadWeight_Clash_NotSound_TooMany⟩ (fun _ h => nomatch h))))
      (pss2_one (ps2_lift fun I => (psd_ret (pd_tup (pad_cons pd_str pad_nil)))))
      pss2_nil)
      (pss2_one (ps2_ret (pe2_tup (pa2_cons (p2_xf [CA.BadTable] (all_cons Z.xf_BadTable_rule (fun _ h => nomatch h)) (pe2_lift fun I => (pdv 1))) (pa2_cons (p2_xf [CA.BadTable] (all_cons Z.xf_BadTable_things (fun _ h => nomatch h)) (pe2_lift fun I => (pdv 1))) pa2_nil)))))))⟩) HdOk2.nil))
      (pss2_one (ps2_lift fun I => (psd_ret (pd_tup (pad_cons pd_str pad_nil))))))⟩
theorem sc__law_same : FnScope N__law_same ["one", "other"] (defScope s__law_same) := ⟨rfl, rfl, rfl, by decide +kernel, rfl, by decide +kernel, by decide +kernel⟩
theorem has__law_same (T : Txt K mg) (A : At K mg "_law_same" s__law_same ["one", "other"]) : ∀ n : Nat, HasD P w K mg base (n + 0) "_law_same" ["one", "other"] (m__law_same n)
  | 0 => A.noneD
  | n + 1 => by
    have hrec := has__law_same T A n
    exact At.hasD (k := n + 0) A sc__law_same fun I f cdv Ar outer s H E hr => ⟨_, (pssd_cons (psd_if ((pwd_or (ptd_val (pd_isi T.b_isinstance T.b_bool PyProof.Rows.boot_bool (pdv 0))) (pwd_or1 (ptd_val (pd_isi T.b_isinstance T.b_bool PyProof.Rows.boot_bool (pdv 1)))))).pt (pssd_one (psd_ret (pd_and (pd_isi T.b_isinstance T.b_bool PyProof.Rows.boot_bool (pdv 0)) (pd_and (pd_isi T.b_isinstance T.b_bool PyProof.Rows.boot_bool (pdv 1)) (pd_one (pd_cmp op_eq dr_eq (pdv 0) (pdv 1))))))) pssd_nil)
      (pssd_cons (psd_if (ptd_val (pd_isi T.b_isinstance T.b_int PyProof.Rows.boot_int (pdv 0))) (pssd_one (psd_ret (pd_and (pd_isi T.b_isinstance T.b_int PyProof.Rows.boot_int (pdv 1)) (pd_one (pd_cmp op_eq dr_eq (pdv 0) (pdv 1)))))) pssd_nil)
      (pssd_cons (psd_if (ptd_val (pd_isi T.b_isinstance T.b_str PyProof.Rows.boot_str (pdv 0))) (pssd_one (psd_ret (pd_and (pd_isi T.b_isinstance T.b_str PyProof.Rows.boot_str (pdv 1)) (pd_one (pd_cmp op_eq dr_eq (pdv 0) (pdv 1)))))) pssd_nil)
      (pssd_cons (psd_if (ptd_val (pd_isi T.b_isinstance T.b_tuple PyProof.Rows.boot_tuple (pdv 0))) (pssd_cons (psd_if ((pwd_or (ptd_not (ptd_val (pd_isi T.b_isinstance T.b_tuple PyProof.Rows.boot_tuple (pdv 1)))) (pwd_or1 (ptd_cmp op_ne dr_ne (pd_callB cr_len dc_len T.b_len PySem.boot_len (pad_cons (pdv 0) pad_nil)) (pd_callB cr_len dc_len T.b_len PySem.boot_len (pad_cons (pdv 1) pad_nil)))))).pt (pssd_one (psd_ret pd_bl)) pssd_nil)
      (pssd_one (psd_ret (pd_callBO (cr_all rfl) dco_all T.b_all PyProof.Rows.boot_all ((pf_lc (own := [("k", 2)]) rfl sc__law_same.nd (pid_range1 T.b_range (pad_cons (pd_callB cr_len dc_len T.b_len PySem.boot_len (pad_cons (pdv 0) pad_nil)) pad_nil)) (blkOk_by (own := [("k", 2)]) (N := N__law_same) (sc := defScope s__law_same) (by decide +kernel)) (fun _ _ _ _ _ => (pgd_name (i := 2) sc__law_same.nd)) (fun _ _ _ _ _ => ptsd_nil) (fun _ _ _ _ _ => (pd_callD hrec hr (pad_cons (pd_ix (pdv 0) (pdv 2)) (pad_cons (pd_ix (pdv 1) (pdv 2)) pad_nil)) (Nat.le_refl _))))).pl)))) pssd_nil)
      (pssd_cons (psd_if (ptd_val (pd_isi T.b_isinstance T.b_list PyProof.Rows.boot_list (pdv 0))) (pssd_cons (psd_if ((pwd_or (ptd_not (ptd_val (pd_isi T.b_isinstance T.b_list PyProof.Rows.boot_list (pdv 1)))) (pwd_or1 (ptd_cmp op_ne dr_ne (pd_callB cr_len dc_len T.b_len PySem.boot_len (pad_cons (pdv 0) pad_nil)) (pd_callB cr_len dc_len T.b_len PySem.boot_len (pad_cons (pdv 1) pad_nil)))))).pt (pssd_one (psd_ret pd_bl)) pssd_nil)
      (pssd_one (psd_ret (pd_callBO (cr_all rfl) dco_all T.b_all PyProof.Rows.boot_all ((pf_lc (own := [("k", 2)]) rfl sc__law_same.nd (pid_range1 T.b_range (pad_cons (pd_callB cr_len dc_len T.b_len PySem.boot_len (pad_cons (pdv 0) pad_nil)) pad_nil)) (blkOk_by (own := [("k", 2)]) (N := N__law_same) (sc := defScope s__law_same) (by decide +kernel)) (fun _ _ _ _ _ => (pgd_name (i := 2) sc__law_same.nd)) (fun _ _ _ _ _ => ptsd_nil) (fun _ _ _ _ _ => (pd_callD hrec hr (pad_cons (pd_ix (pdv 0) (pdv 2)) (pad_cons (pd_ix (pdv 1) (pdv 2)) pad_nil)) (Nat.le_refl _))))).pl)))) pssd_nil)
      (pssd_one (psd_ret (pd_and (pd_cmp op_isN dr_isN (pdv 0) pd_non) (pd_one (pd_cmp op_isN dr_isN (pdv 1) pd_non))))))))))⟩
theorem sc__law_name : FnScope N__law_name ["number", "salt"] (defScope s__law_name) := ⟨rfl, rfl, rfl, by decide +kernel, rfl, by decide +kernel, by decide +kernel⟩
theorem has__law_name (T : Txt K mg) (A : At K mg "_law_name" s__law_name ["number", "salt"]) : HasD P w K mg base 1 "_law_name" ["number", "salt"] m__law_name :=
  At.hasD (k := 0) A sc__law_name fun I f cdv Ar outer s H E hr => ⟨_, (pssd_cons (psd_set (i := 2) sc__law_name.nd pd_str)
      (pssd_cons (psd_set (i := 3) sc__law_name.nd (pd_op op_addA dr_add (pd_op op_mul dr_mul (pdv 1) pd_int) (pdv 0)))
      (pssd_cons (psd_set (i := 4) sc__law_name.nd (pd_ix (pdv 2) (pd_op op_mod dr_mod (pd_callT cr_int dc_int T.b_int PyProof.Rows.boot_int (pad_cons (pdv 3) pad_nil)) pd_int)))
      (pssd_cons (psd_set (i := 3) sc__law_name.nd (pd_op op_fdiv dr_fdiv (pdv 3) pd_int))
      (pssd_cons (psd_for PassesOwn.never rfl (pid_range1 T.b_range (pad_cons pd_int pad_nil)) (pgd_name (i := 5) sc__law_name.nd) (pssd_one (psd_if (ptd_cmp op_gt dr_gt (pdv 3) pd_int) (pssd_cons (psd_set (i := 4) sc__law_name.nd (pd_op op_addA dr_add (pd_ix (pdv 2) (pd_op op_mod dr_mod (pd_callT cr_int dc_int T.b_int PyProof.Rows.boot_int (pad_cons (pdv 3) pad_nil)) pd_int)) (pdv 4)))
      (pssd_one (psd_set (i := 3) sc__law_name.nd (pd_op op_fdiv dr_fdiv (pdv 3) pd_int)))) pssd_nil)))
      (pssd_cons (psd_if (ptd_cmp op_eq dr_eq (pd_op op_mod dr_mod (pd_callT cr_int dc_int T.b_int PyProof.Rows.boot_int (pad_cons (pdv 1) pad_nil)) pd_int) pd_int) (pssd_one (psd_ret (pd_revS (pdv 4)))) pssd_nil)
      (pssd_one (psd_ret (pdv 4)))))))))⟩
theorem sc__law_weights : FnScope N__law_weights ["size", "draws"] (defScope s__law_weights) := ⟨rfl, rfl, rfl, by decide +kernel, rfl, by decide +kernel, by decide +kernel⟩
theorem has__law_weights (T : Txt K mg) (Z : Fx K mg) (A : At K mg "_law_weights" s__law_weights ["size", "draws"]) (h__law_name : HasD P w K mg base 1 "_law_name" ["number", "salt"] m__law_name) : HasS P w K mg base 2 "_law_weights" ["size", "draws"] m__law_weights :=
  At.hasS (k := 1) A sc__law_weights fun f cdv Ar outer s H E hr => ⟨_, (pss2_cons (ps2_set (i := 2) sc__law_weights.nd pe2_dnewT)
      (pss2_cons (ps2_for PassesOwn.leaving rfl (pi2_lift fun I => (pid_range1 T.b_range (pad_cons (pd_op op_mod dr_mod (pd_callT cr_int dc_int T.b_int PyProof.Rows.boot_int (pad_cons (pd_ix (pdv 1) pd_int) pad_nil)) pd_int) pad_nil))) (fun I => (pgd_name (i := 3) sc__law_weights.nd))
      (pss2_cons (ps2_lift fun I => (psd_set (i := 4) sc__law_weights.nd (pd_tup (pad_cons (pd_callD h__law_name hr (pad_cons (pd_op op_addA dr_add pd_int (pdv 3)) (pad_cons (pd_ix (pdv 1) pd_int) pad_nil))) (pad_cons (pd_callD h__law_name hr (pad_cons (pd_op op_addA dr_add pd_int (pd_op op_mod dr_mod (pd_callT cr_int dc_int T.b_int PyProof.Rows.boot_int (pad_cons (pd_ix (pdv 1) (pd_op op_addA dr_add pd_int (pdv 3))) pad_nil)) pd_int)) (pad_cons (pd_ix (pdv 1) pd_int) pad_nil))) pad_nil)))))
      (pss2_one (ps2_put2 (hu_of hr) (pe2_lift fun I => (pdv 2)) (pe2_lift fun I => (pdv 4)) (pe2_lift fun I => (pd_op op_mod dr_mod (pd_callT cr_int dc_int T.b_int PyProof.Rows.boot_int (pad_cons (pd_ix (pdv 1) (pd_op op_addA dr_add pd_int (pdv 3))) pad_nil)) (pdv 0)))))))
      (pss2_one (ps2_lift fun I => (psd_ret (pdv 2))))))⟩
theorem sc_Table___init__ : FnScope N_Table___init__ ["self", "table", "weights"] (defScope s_Table___init__) := ⟨rfl, rfl, rfl, by decide +kernel, rfl, by decide +kernel, by decide +kernel⟩
theorem has_Table___init__ (T : Txt K mg) (Z : Fx K mg) (A : AtI K mg "Table" CA.Table "Table.__init__" s_Table___init__ ["self", "table", "weights"]) : HasI P w K mg base 1 "Table" CA.Table m_Table___init__ :=
  AtI.hasI (k := 0) A sc_Table___init__ fun f cdv Ar outer s H E hr => ⟨_, (pss2_cons (ps2_fld (Cs := [CA.Table]) (all_cons ⟨Z.cls_Table, Z.na_Table__sums⟩ (fun _ h => nomatch h)) (pe2_lift fun I => (pdv 0)) (pe2_lift fun I => (pd_ix (pdv 1) pd_int)))
      (pss2_cons (ps2_fld (Cs := [CA.Table]) (all_cons ⟨Z.cls_Table, Z.na_Table__products⟩ (fun _ h => nomatch h)) (pe2_lift fun I => (pdv 0)) (pe2_lift fun I => (pd_ix (pdv 1) pd_int)))
      (pss2_cons (ps2_fld (Cs := [CA.Table]) (all_cons ⟨Z.cls_Table, Z.na_Table__one⟩ (fun _ h => nomatch h)) (pe2_lift fun I => (pdv 0)) (pe2_lift fun I => (pd_ix (pdv 1) pd_int)))
      (pss2_one (ps2_fld (Cs := [CA.Table]) (all_cons ⟨Z.cls_Table, Z.na_Table__weights⟩ (fun _ h => nomatch h)) (pe2_lift fun I => (pdv 0)) (pe2_copyT (hu_of hr) (i := 3) (j := 2) rfl sc_Table___init__.nd (blkOk_by (own := [("label", 3)]) (N := N_Table___init__) (sc := defScope s_Table___init__) (by decide +kernel)) (by decide) (fun _ _ _ _ _ => pv 3) (fun _ _ _ _ _ => pe_dget (hu_of hr) (pv 2) (pv 3) (fun _ _ => rfl)) (fun _ _ _ _ _ => (haveI : Iota := ⟨[]⟩; (pgd_name (i := 3) sc_Table___init__.nd).pe)) (pv 2)))))))⟩
theorem sc_Table_one : FnScope N_Table_one ["self"] (defScope s_Table_one) := ⟨rfl, rfl, rfl, by decide +kernel, rfl, by decide +kernel, by decide +kernel⟩
theorem has_Table_one (T : Txt K mg) (Z : Fx K mg) (A : AtM K CA.Table "one" "Table.one" s_Table_one ["self"]) : HasMk P w K mg base 1 CA.Table "one" m_Table_one :=
  AtM.hasM (k := 0) Z.cls_Table A sc_Table_one fun f cdv Ar outer s H E hr => ⟨_, (pss2_one (ps2_ret (p2_fld [CA.Table] (all_cons ⟨Z.cls_Table, Z.na_Table__one⟩ (fun _ h => nomatch h)) (pe2_lift fun I => (pdv 0)))))⟩
theorem sc_Table_letter : FnScope N_Table_letter ["self", "label"] (defScope s_Table_letter) := ⟨rfl, rfl, rfl, by decide +kernel, rfl, by decide +kernel, by decide +kernel⟩
theorem has_Table_letter (T : Txt K mg) (Z : Fx K mg) (A : AtM K CA.Table "letter" "Table.letter" s_Table_letter ["self", "label"]) : HasMk P w K mg base 1 CA.Table "letter" m_Table_letter :=
  AtM.hasM (k := 0) Z.cls_Table A sc_Table_letter fun f cdv Ar outer s H E hr => ⟨_, (pss2_one (ps2_ret (pe2_ixD (hu_of hr) (p2_fld [CA.Table] (all_cons ⟨Z.cls_Table, Z.na_Table__weights⟩ (fun _ h => nomatch h)) (pe2_lift fun I => (pdv 0))) (pe2_lift fun I => (pdv 1)))))⟩
theorem sc__law_star : FnScope N__law_star ["table", "x"] (defScope s__law_star) := ⟨rfl, rfl, rfl, by decide +kernel, rfl, by decide +kernel, by decide +kernel⟩
theorem has__law_star (T : Txt K mg) (A : At K mg "_law_star" s__law_star ["table", "x"]) : HasD P w K mg base 1 "_law_star" ["table", "x"] m__law_star :=
  At.hasD (k := 0) A sc__law_star fun I f cdv Ar outer s H E hr => ⟨_, (pssd_cons (psd_set (i := 2) sc__law_star.nd (pd_ix (pdv 0) pd_int))
      (pssd_cons (psd_set (i := 3) sc__law_star.nd (pd_ix (pdv 0) pd_int))
      (pssd_cons (psd_for PassesOwn.never rfl (pid_range1 T.b_range (pad_cons pd_int pad_nil)) (pgd_name (i := 4) sc__law_star.nd) (pssd_cons (psd_set (i := 3) sc__law_star.nd (pd_ix (pd_ix (pd_ix (pdv 0) pd_int) (pdv 3)) (pdv 1)))
      (pssd_one (psd_set (i := 2) sc__law_star.nd (pd_ix (pd_ix (pd_ix (pdv 0) pd_int) (pdv 2)) (pdv 3))))))
      (pssd_one (psd_ret (pdv 2))))))⟩
theorem sc_Table_plus : FnScope N_Table_plus ["self", "x", "y"] (defScope s_Table_plus) := ⟨rfl, rfl, rfl, by decide +kernel, rfl, by decide +kernel, by decide +kernel⟩
theorem has_Table_plus (T : Txt K mg) (Z : Fx K mg) (A : AtM K CA.Table "plus" "Table.plus" s_Table_plus ["self", "x", "y"]) : HasMk P w K mg base 1 CA.Table "plus" m_Table_plus :=
  AtM.hasM (k := 0) Z.cls_Table A sc_Table_plus fun f cdv Ar outer s H E hr => ⟨_, (pss2_one (ps2_ret (pe2_ixD (hu_of hr) (pe2_ixD (hu_of hr) (p2_fld [CA.Table] (all_cons ⟨Z.cls_Table, Z.na_Table__sums⟩ (fun _ h => nomatch h)) (pe2_lift fun I => (pdv 0))) (pe2_lift fun I => (pdv 1))) (pe2_lift fun I => (pdv 2)))))⟩
theorem sc_Table_times : FnScope N_Table_times ["self", "x", "y"] (defScope s_Table_times) := ⟨rfl, rfl, rfl, by decide +kernel, rfl, by decide +kernel, by decide +kernel⟩
theorem has_Table_times (T : Txt K mg) (Z : Fx K mg) (A : AtM K CA.Table "times" "Table.times" s_Table_times ["self", "x", "y"]) : HasMk P w K mg base 1 CA.Table "times" m_Table_times :=
  AtM.hasM (k := 0) Z.cls_Table A sc_Table_times fun f cdv Ar outer s H E hr => ⟨_, (pss2_one (ps2_ret (pe2_ixD (hu_of hr) (pe2_ixD (hu_of hr) (p2_fld [CA.Table] (all_cons ⟨Z.cls_Table, Z.na_Table__products⟩ (fun _ h => nomatch h)) (pe2_lift fun I => (pdv 0))) (pe2_lift fun I => (pdv 1))) (pe2_lift fun I => (pdv 2)))))⟩
theorem sc_Table_star : FnScope N_Table_star ["self", "x"] (defScope s_Table_star) := ⟨rfl, rfl, rfl, by decide +kernel, rfl, by decide +kernel, by decide +kernel⟩
theorem has_Table_star (T : Txt K mg) (Z : Fx K mg) (A : AtM K CA.Table "star" "Table.star" s_Table_star ["self", "x"]) (h_Table_plus : HasMk P w K mg base 1 CA.Table "plus" m_Table_plus) (h_Table_times : HasMk P w K mg base 1 CA.Table "times" m_Table_times) : HasMk P w K mg base 2 CA.Table "star" m_Table_star :=
  AtM.hasM (k := 1) Z.cls_Table A sc_Table_star fun f cdv Ar outer s H E hr => ⟨_, (pss2_cons (ps2_set (i := 2) sc_Table_star.nd (p2_fld [CA.Table] (all_cons ⟨Z.cls_Table, Z.na_Table__one⟩ (fun _ h => nomatch h)) (pe2_lift fun I => (pdv 0))))
      (pss2_cons (ps2_for PassesOwn.leaving rfl (p2_any (p2_fld [CA.Table] (all_cons ⟨Z.cls_Table, Z.na_Table__sums⟩ (fun _ h => nomatch h)) (pe2_lift fun I => (pdv 0)))) (fun I => (pgd_name (i := 3) sc_Table_star.nd))
      (pss2_one (ps2_set (i := 2) sc_Table_star.nd (pe2_meth (Cs := [CA.Table]) (mm := (fun _ => m_Table_plus)) (pe2_lift fun I => (pdv 0)) (all_cons (h_Table_plus.hasM (by decide)) (fun _ h => nomatch h)) hr tkS (pa2_cons (p2_fld [CA.Table] (all_cons ⟨Z.cls_Table, Z.na_Table__one⟩ (fun _ h => nomatch h)) (pe2_lift fun I => (pdv 0))) (pa2_cons (pe2_meth (Cs := [CA.Table]) (mm := (fun _ => m_Table_times)) (pe2_lift fun I => (pdv 0)) (all_cons (h_Table_times.hasM (by decide)) (fun _ h => nomatch h)) hr tkS (pa2_lift fun I => (pad_cons (pdv 1) (pad_cons (pdv 2) pad_nil)))) pa2_nil))))))
      (pss2_one (ps2_lift fun I => (psd_ret (pdv 2))))))⟩
theorem sc__law_holds : FnScope N__law_holds ["algebra", "table", "weights"] (defScope s__law_holds) := ⟨rfl, rfl, rfl, by decide +kernel, rfl, by decide +kernel, by decide +kernel⟩
theorem has__law_holds (T : Txt K mg) (Z : Fx K mg) (A : At K mg "_law_holds" s__law_holds ["algebra", "table", "weights"]) (h_Table_one : HasMk P w K mg base 1 CA.Table "one" m_Table_one) (h__law_same : HasD P w K mg base 12 "_law_same" ["one", "other"] (m__law_same 12)) (h_Table_letter : HasMk P w K mg base 1 CA.Table "letter" m_Table_letter) (h__law_star : HasD P w K mg base 1 "_law_star" ["table", "x"] m__law_star) (h_Table_star : HasMk P w K mg base 2 CA.Table "star" m_Table_star) (h_Table_plus : HasMk P w K mg base 1 CA.Table "plus" m_Table_plus) (h_Table_times : HasMk P w K mg base 1 CA.Table "times" m_Table_times) : HasS P w K mg base 13 "_law_holds" ["algebra", "table", "weights"] m__law_holds :=
  At.hasS (k := 12) A sc__law_holds fun f cdv Ar outer s H E hr => ⟨_, (pss2_cons (ps2_if ((pw2_or (pt2_not (pt2_val (p2_isI (.clr CA.Algebra) [CA.Table] [] T.b_isinstance (pe2_lift fun I => (pdv 0)) (pe2_lift fun I => (pd_cls Z.g_Algebra)) (fun ρ S d S' h => of_zL rfl h) (all_cons ⟨Z.InsC_Table, Z.kit_Table_Algebra⟩ (fun _ h => nomatch h)) (fun _ h => nomatch h)))) (pw2_or1 (pt2_not (pt2_val (pe2_callD h__law_same hr (pa2_cons (pe2_lift fun I => (pd_ix (pdv 1) pd_int)) (pa2_cons (pe2_meth0 (Cs := [CA.Table]) (mm := (fun _ => m_Table_one)) (pe2_lift fun I => (pdv 0)) (all_cons (h_Table_one.hasM (by decide)) (fun _ h => nomatch h)) hr tkS) pa2_nil)) (by decide))))))).pt
      (pss2_one (ps2_lift fun I => (psd_ret pd_bl)))
      pss2_nil)
      (pss2_cons (ps2_for PassesOwn.leaving rfl (p2_any (p2_list rfl T.b_list (pe2_lift fun I => (pdv 2)))) (fun I => (pgd_name (i := 3) sc__law_holds.nd))
      (pss2_one (ps2_if (pt2_not (pt2_val (pe2_callD h__law_same hr (pa2_cons (pe2_ixD (hu_of hr) (pe2_lift fun I => (pdv 2)) (pe2_lift fun I => (pdv 3))) (pa2_cons (pe2_meth (Cs := [CA.Table]) (mm := (fun _ => m_Table_letter)) (pe2_lift fun I => (pdv 0)) (all_cons (h_Table_letter.hasM (by decide)) (fun _ h => nomatch h)) hr tkS (pa2_lift fun I => (pad_cons (pdv 3) pad_nil))) pa2_nil)) (by decide))))
      (pss2_one (ps2_lift fun I => (psd_ret pd_bl)))
      pss2_nil)))
      (pss2_cons (ps2_for PassesOwn.leaving rfl (pi2_lift fun I => (pid_range1 T.b_range (pad_cons (pd_callB cr_len dc_len T.b_len PySem.boot_len (pad_cons (pd_ix (pdv 1) pd_int) pad_nil)) pad_nil))) (fun I => (pgd_name (i := 4) sc__law_holds.nd))
      (pss2_cons (ps2_if (pt2_not (pt2_val (pe2_callD h__law_same hr (pa2_cons (pe2_lift fun I => (pd_callD h__law_star hr (pad_cons (pdv 1) (pad_cons (pdv 4) pad_nil)))) (pa2_cons (pe2_meth (Cs := [CA.Table]) (mm := (fun _ => m_Table_star)) (pe2_lift fun I => (pdv 0)) (all_cons (h_Table_star.hasM (by decide)) (fun _ h => nomatch h)) hr tkS (pa2_lift fun I => (pad_cons (pdv 4) pad_nil))) pa2_nil)) (by decide))))
      (pss2_one (ps2_lift fun I => (psd_ret pd_bl)))
      pss2_nil)
      (pss2_one (ps2_for PassesOwn.leaving rfl (pi2_lift fun I => (pid_range1 T.b_range (pad_cons (pd_callB cr_len dc_len T.b_len PySem.boot_len (pad_cons (pd_ix (pdv 1) pd_int) pad_nil)) pad_nil))) (fun I => (pgd_name (i := 5) sc__law_holds.nd))
      (pss2_one (ps2_if (pt2_not (pt2_val (pe2_callD h__law_same hr (pa2_cons (pe2_lift fun I => ((pf_lst (pad_cons (pd_ix (pd_ix (pd_ix (pdv 1) pd_int) (pdv 4)) (pdv 5)) (pad_cons (pd_ix (pd_ix (pd_ix (pdv 1) pd_int) (pdv 4)) (pdv 5)) pad_nil)))).pd) (pa2_cons (pe2_lst (pa2_cons (pe2_meth (Cs := [CA.Table]) (mm := (fun _ => m_Table_plus)) (pe2_lift fun I => (pdv 0)) (all_cons (h_Table_plus.hasM (by decide)) (fun _ h => nomatch h)) hr tkS (pa2_lift fun I => (pad_cons (pdv 4) (pad_cons (pdv 5) pad_nil)))) (pa2_cons (pe2_meth (Cs := [CA.Table]) (mm := (fun _ => m_Table_times)) (pe2_lift fun I => (pdv 0)) (all_cons (h_Table_times.hasM (by decide)) (fun _ h => nomatch h)) hr tkS (pa2_lift fun I => (pad_cons (pdv 4) (pad_cons (pdv 5) pad_nil)))) pa2_nil))) pa2_nil)) (by decide))))
      (pss2_one (ps2_lift fun I => (psd_ret pd_bl)))
      pss2_nil))))))
      (pss2_one (ps2_lift fun I => (psd_ret pd_bl))))))⟩
theorem sc_law : FnScope N_law ["script"] (defScope s_law) := ⟨rfl, rfl, rfl, by decide +kernel, rfl, by decide +kernel, by decide +kernel⟩
theorem law_okS (T : Txt K mg) (Z : Fx K mg) {f : Addr} {fd : FuncData} (F : L2.Fun K "law" "law" s_law f fd) (h__law_cell : HasD P w K mg base 1 "_law_cell" ["script", "k"] m__law_cell) (h__law_draws : HasD P w K mg base 1 "_law_draws" ["cell", "count"] m__law_draws) (h__law_table : HasD P w K mg base 3 "_law_table" ["draws"] m__law_table) (h__law_bent : HasD P w K mg base 2 "_law_bent" ["table", "draws"] m__law_bent) (h__law_broken : HasD P w K mg base 2 "_law_broken" ["table"] m__law_broken) (h__law_judged : HasS P w K mg base 4 "_law_judged" ["table"] m__law_judged) (h__law_same : HasD P w K mg base 12 "_law_same" ["one", "other"] (m__law_same 12)) (h__law_weights : HasS P w K mg base 2 "_law_weights" ["size", "draws"] m__law_weights) (h_Table___init__ : HasI P w K mg base 1 "Table" CA.Table m_Table___init__) (h__law_holds : HasS P w K mg base 13 "_law_holds" ["algebra", "table", "weights"] m__law_holds) : FnOk P w K mg base (L2.CX P w) 14 f fd ["script"] (spS K m_law) :=
  Fun.okS (k := 13) F sc_law fun cdv Ar outer s H E hr => ⟨_, (pss2_cons (ps2_lift fun I => (psd_setO (i := 1) sc_law.nd (pf_lst pad_nil)))
      (pss2_cons (ps2_for PassesOwn.leaving rfl (pi2_lift fun I => (pid_range1 T.b_range (pad_cons pd_int pad_nil))) (fun I => (pgd_name (i := 2) sc_law.nd))
      (pss2_cons (ps2_lift fun I => (psd_set (i := 3) sc_law.nd (pd_callD h__law_draws hr (pad_cons (pd_op op_addA dr_add (pd_callD h__law_cell hr (pad_cons (pdv 0) (pad_cons (pdv 2) pad_nil))) (pd_op op_mul dr_mul pd_int (pdv 2))) (pad_cons pd_int pad_nil)))))
      (pss2_cons (ps2_lift fun I => (psd_set (i := 4) sc_law.nd (pd_callD h__law_table hr (pad_cons (pd_slice (pdv 3) pod_none (pod_some pd_int)) pad_nil))))
      (pss2_cons (ps2_lift fun I => (psd_set (i := 5) sc_law.nd (pd_callD h__law_bent hr (pad_cons (pdv 4) (pad_cons (pd_slice (pdv 3) (pod_some pd_int) (pod_some pd_int)) pad_nil)))))
      (pss2_cons (ps2_lift fun I => (psd_set (i := 6) sc_law.nd (pd_callD h__law_broken hr (pad_cons (pdv 4) pad_nil))))
      (pss2_cons (ps2_for PassesOwn.leaving rfl (pi2_lift fun I => (pid_any ((pf_lst (pad_cons ((pf_lst (pad_cons (pdv 4) (pad_cons (pdv 6) pad_nil)))).pd (pad_cons ((pf_lst (pad_cons (pdv 5) (pad_cons (pd_callD h__law_broken hr (pad_cons (pdv 5) pad_nil)) pad_nil)))).pd (pad_cons ((pf_lst (pad_cons (pdv 4) (pad_cons (pdv 6) pad_nil)))).pd pad_nil))))).pd)) (fun I => (pgd_name (i := 7) sc_law.nd))
      (pss2_one (ps2_if (pt2_not (pt2_val (pe2_callD h__law_same hr (pa2_cons (pe2_lift fun I => (pd_ix (pdv 7) pd_int)) (pa2_cons (p2_call h__law_judged tkS hr (pa2_lift fun I => (pad_cons (pd_ix (pdv 7) pd_int) pad_nil)) (by decide)) pa2_nil)) (by decide))))
      (pss2_one (ps2_lift fun I => (psd_ret pd_bl)))
      pss2_nil)))
      (pss2_one (ps2_if (pt2_lift fun I => (ptd_not (ptd_truth (pdv 6))))
      (pss2_cons (ps2_lift fun I => (psd_set (i := 8) sc_law.nd (pd_callB cr_len dc_len T.b_len PySem.boot_len (pad_cons (pd_ix (pdv 4) pd_int) pad_nil))))
      (pss2_cons (ps2_set (i := 9) sc_law.nd (p2_call h__law_weights tkS hr (pa2_lift fun I => (pad_cons (pdv 8) (pad_cons (pd_slice (pdv 3) (pod_some pd_int) (pod_some pd_int)) pad_nil))) (by decide)))
      (pss2_cons (ps2_appO 1 (pe2_lst (pa2_cons (pe2_makeH h_Table___init__ tkS hr (pa2_lift fun I => (pad_cons (pdv 4) (pad_cons (pdv 9) pad_nil))) (by decide)) (pa2_cons (pe2_lift fun I => (pdv 4)) (pa2_cons (p2_call h__law_weights tkS hr (pa2_lift fun I => (pad_cons (pdv 8) (pad_cons (pd_slice (pdv 3) (pod_some pd_int) (pod_some pd_int)) pad_nil))) (by decide)) pa2_nil)))))
      (pss2_one (ps2_for PassesOwn.leaving rfl (p2_any (p2_list rfl T.b_list (pe2_lift fun I => (pdv 9)))) (fun I => (pgd_name (i := 10) sc_law.nd))
      (pss2_one (ps2_put2 (hu_of hr) (pe2_lift fun I => (pdv 9)) (pe2_lift fun I => (pdv 10)) (pe2_bin (haveI : Iota := ⟨[]⟩; op_mod) (fun _ => dr_mod) (pe2_callT (haveI : Iota := ⟨[]⟩; cr_int) (fun _ => dc_int) T.b_int PyProof.Rows.boot_int (pa2_cons (pe2_bin (haveI : Iota := ⟨[]⟩; op_addA) (fun _ => dr_add) (pe2_ixD (hu_of hr) (pe2_lift fun I => (pdv 9)) (pe2_lift fun I => (pdv 10))) (pe2_lift fun I => pd_int)) pa2_nil)) (pe2_lift fun I => (pdv 8))))))))))
      pss2_nil))))))))
      (pss2_one (ps2_frz 1 (ps2_ret (pe2_callB1 (haveI : Iota := ⟨[]⟩; (cr_all rfl)) (fun _ => dcl_of dco_all) T.b_all PyProof.Rows.boot_all (pa2_cons (pe2_lc (own := [("one", 11)]) rfl sc_law.nd (pi2_lift fun I => (pid_any (pdv 1))) (blkOk_by (own := [("one", 11)]) (N := N_law) (sc := defScope s_law) (by decide +kernel)) (fun I _ _ _ _ _ => (pgd_name (i := 11) sc_law.nd)) (fun I _ _ _ _ _ => ptsd_nil) (fun _ _ _ _ _ => (p2_call h__law_holds takes0 hr (pa2_lift fun I => (pad_cons (pd_ix (pdv 11) pd_int) (pad_cons (pd_ix (pdv 11) pd_int) (pad_cons (pd_ix (pdv 11) pd_int) pad_nil)))) (by decide)))) pa2_nil)))))))⟩
theorem hasE_BadTable (T : Txt K mg) (Z : Fx K mg) (A : AtE P K mg "BadTable" CA.BadTable "BadTable.__init__" s_BadTable___init__ ["self", "rule", "things"]) : HasE P w K mg base 1 "BadTable" CA.BadTable ns_BadTable ge_BadTable :=
  hasE_of (x0 := "self") A rfl rfl (ScopeI.of (by decide +kernel)) ⟨_, rfl, rfl⟩ _ (fun _ _ _ _ => rfl) (fun _ _ _ _ => rfl) (fun _ _ _ _ => rfl) (fun _ _ _ _ => rfl) fun f cda cc A outer s H E => ⟨_, _, fun I => (pd_joined (.cons pd_str (.cons (pd_fmt (pdv 1)) .nil))), (pss_cons (ps_ost (pv 0) (pv 1)) (pss_one (ps_ost (pv 0) (pv 2)))), fun Q a ws H' T' hl ha hk => (match ws, hl with | [_, _], _ => ost2 T' Z.nx_BadTable_rule Z.nx_BadTable_things rfl rfl rfl ha fun dx n => hk dx n)⟩
end
end K17

namespace K17
open PySem PySem.Spec PyProof.Rows L2 DD
variable [Iota]
def Pl : Nat → D → Prop
  | n + 1, .tup ds => ds.length < 1000000 ∧ ∀ d ∈ ds, Pl n d
  | n + 1, .lst ds => ds.length < 1000000 ∧ ∀ d ∈ ds, Pl n d
  | _ + 1, .int _ => True
  | _ + 1, .str _ => True
  | _ + 1, .non => True
  | _, _ => False
theorem same_succ (n : Nat) (ds : List D) : m__law_same (n + 1) ds = runD 2 1 (b__law_same (m__law_same n)) ds := rfl
/-- the tests of a kind, as bare functions: nothing to unfold -/
theorem same_int (n : Nat) (i : Int) : m__law_same (n + 1) [.int i, .int i] = .ok (.bl true) := by
  rw [same_succ, runD2]
  have f1 := isi_ib i
  have f2 := isi_ii i
  unfold b__law_same
  generalize hG : eComp _ _ _ _ _ = G
  clear hG
  generalize dIsi "bool" = IB at *
  generalize dIsi "int" = II at *
  generalize dIsi "str" = IS at *
  generalize dIsi "tuple" = IT at *
  generalize dIsi "list" = IL at *
  simp only [sSeq_ap, sIf_ap, bOr_ap, tst_ap, eVar_s, eVar_z, R.okb, f1, f2, asB_bl, Bool.false_eq_true, if_false, if_true, sNext_ap, seqK_nx, sRet_ap, vAnd_ap, eBin_ap, dEq_i, beq_self_eq_true, seqK_rt, outK_rt]
theorem same_s (n : Nat) (i : Str) : m__law_same (n + 1) [.str i, .str i] = .ok (.bl true) := by
  rw [same_succ, runD2]
  have f1 := isi_sb i
  have f2 := isi_si i
  have f3 := isi_ss i
  unfold b__law_same
  generalize hG : eComp _ _ _ _ _ = G
  clear hG
  generalize dIsi "bool" = IB at *
  generalize dIsi "int" = II at *
  generalize dIsi "str" = IS at *
  generalize dIsi "tuple" = IT at *
  generalize dIsi "list" = IL at *
  simp only [sSeq_ap, sIf_ap, bOr_ap, tst_ap, eVar_s, eVar_z, R.okb, f1, f2, f3, asB_bl, Bool.false_eq_true, if_false, if_true, sNext_ap, seqK_nx, sRet_ap, vAnd_ap, eBin_ap, dEq_s, beq_self_eq_true, seqK_rt, outK_rt]
theorem same_non (n : Nat) : m__law_same (n + 1) [.non, .non] = .ok (.bl true) := by
  rw [same_succ, runD2]
  have f1 := isi_nb
  have f2 := isi_ni
  have f3 := isi_ns
  have f4 := isi_nt
  have f5 := isi_nl
  unfold b__law_same
  generalize hG : eComp _ _ _ _ _ = G
  clear hG
  generalize dIsi "bool" = IB at *
  generalize dIsi "int" = II at *
  generalize dIsi "str" = IS at *
  generalize dIsi "tuple" = IT at *
  generalize dIsi "list" = IL at *
  simp only [sSeq_ap, sIf_ap, bOr_ap, tst_ap, eVar_s, eVar_z, R.okb, f1, f2, f3, f4, f5, asB_bl, Bool.false_eq_true, if_false, if_true, sNext_ap, seqK_nx, sRet_ap, vAnd_ap, eBin_ap, eC_ap, dIsN_n, DD.isNon, seqK_rt, outK_rt]
theorem same_tup (n : Nat) (ds : List D) (h1 : ds.length < 1000000) (ih : ∀ d ∈ ds, m__law_same n [d, d] = .ok (.bl true)) : m__law_same (n + 1) [.tup ds, .tup ds] = .ok (.bl true) := by
  rw [same_succ, runD2]
  have f1 := isi_tb ds
  have f2 := isi_ti ds
  have f3 := isi_ts ds
  have f4 := isi_tt ds
  unfold b__law_same
  generalize hG : eComp _ _ _ _ _ = G
  have hc : G [.fz (.tup ds), .fz (.tup ds), .un] = .ok ((List.range ds.length).map fun _ => D.bl true) := by
    rw [← hG, eComp_rng ds.length (fun _ => D.bl true) (by simp only [eCons_ap, eCall_ap, eVar_z, eNil_ap, R.okb, dLen_t]) rfl h1 rfl (fun k hk => by
        have ix : dIx (.tup ds) (.int (k : Nat)) = .ok (ds[k]) := dIx_t (List.getElem?_eq_getElem hk)
        simp only [tgN_ap, R.okb, wipeE, List.set_cons_succ, List.set_cons_zero, eCall_ap, eCons_ap, eBin_ap, eVar_s, eVar_z, eNil_ap, ix]
        exact ih _ (List.getElem_mem hk))]
  clear hG
  generalize dIsi "bool" = IB at *
  generalize dIsi "int" = II at *
  generalize dIsi "str" = IS at *
  generalize dIsi "tuple" = IT at *
  generalize dIsi "list" = IL at *
  refine seq_go (if_f (by simp only [bOr_ap, tst_ap, eVar_z, eVar_s, R.okb, f1, asB_bl, Bool.false_eq_true, if_false]) rfl) ?_
  refine seq_go (if_f (by simp only [tst_ap, eVar_z, R.okb, f2, asB_bl]) rfl) ?_
  refine seq_go (if_f (by simp only [tst_ap, eVar_z, R.okb, f3, asB_bl]) rfl) ?_
  refine seq_rt (if_t (by simp only [tst_ap, eVar_z, R.okb, f4, asB_bl]) (seq_go' (if_f ?_ rfl) (ret_of ?_)))
  · simp only [bOr_ap, bNot_ap, tst_ap, eVar_z, eVar_s, R.okb, f4, asB_bl, Bool.not_true, Bool.false_eq_true, if_false, eBin_ap, eCall_ap, eCons_ap, eNil_ap, dLen_t, dNe_i, beq_self_eq_true]
  · have hc' : G (.fz (.tup ds) :: .fz (.tup ds) :: List.replicate 1 .un) = .ok ((List.range ds.length).map fun _ => D.bl true) := hc
    rw [eCall_ap, hc', R.okb, dAll_map (fun _ => true)]
    simp
theorem same_lst (n : Nat) (ds : List D) (h1 : ds.length < 1000000) (ih : ∀ d ∈ ds, m__law_same n [d, d] = .ok (.bl true)) : m__law_same (n + 1) [.lst ds, .lst ds] = .ok (.bl true) := by
  rw [same_succ, runD2]
  have f1 := isi_lb ds
  have f2 := isi_li ds
  have f3 := isi_ls ds
  have f4 := isi_lt ds
  have f5 := isi_ll ds
  unfold b__law_same
  generalize hG : eComp _ _ _ _ _ = G
  have hc : G [.fz (.lst ds), .fz (.lst ds), .un] = .ok ((List.range ds.length).map fun _ => D.bl true) := by
    rw [← hG, eComp_rng ds.length (fun _ => D.bl true) (by simp only [eCons_ap, eCall_ap, eVar_z, eNil_ap, R.okb, dLen_l]) rfl h1 rfl (fun k hk => by
        have ix : dIx (.lst ds) (.int (k : Nat)) = .ok (ds[k]) := dIx_l (List.getElem?_eq_getElem hk)
        simp only [tgN_ap, R.okb, wipeE, List.set_cons_succ, List.set_cons_zero, eCall_ap, eCons_ap, eBin_ap, eVar_s, eVar_z, eNil_ap, ix]
        exact ih _ (List.getElem_mem hk))]
  clear hG
  generalize dIsi "bool" = IB at *
  generalize dIsi "int" = II at *
  generalize dIsi "str" = IS at *
  generalize dIsi "tuple" = IT at *
  generalize dIsi "list" = IL at *
  refine seq_go (if_f (by simp only [bOr_ap, tst_ap, eVar_z, eVar_s, R.okb, f1, asB_bl, Bool.false_eq_true, if_false]) rfl) ?_
  refine seq_go (if_f (by simp only [tst_ap, eVar_z, R.okb, f2, asB_bl]) rfl) ?_
  refine seq_go (if_f (by simp only [tst_ap, eVar_z, R.okb, f3, asB_bl]) rfl) ?_
  refine seq_go (if_f (by simp only [tst_ap, eVar_z, R.okb, f4, asB_bl]) rfl) ?_
  refine seq_rt (if_t (by simp only [tst_ap, eVar_z, R.okb, f5, asB_bl]) (seq_go' (if_f ?_ rfl) (ret_of ?_)))
  · simp only [bOr_ap, bNot_ap, tst_ap, eVar_z, eVar_s, R.okb, f5, asB_bl, Bool.not_true, Bool.false_eq_true, if_false, eBin_ap, eCall_ap, eCons_ap, eNil_ap, dLen_l, dNe_i, beq_self_eq_true]
  · have hc' : G (.fz (.lst ds) :: .fz (.lst ds) :: List.replicate 1 .un) = .ok ((List.range ds.length).map fun _ => D.bl true) := hc
    rw [eCall_ap, hc', R.okb, dAll_map (fun _ => true)]
    simp
theorem same_refl (n : Nat) : ∀ (d : D), Pl n d → m__law_same n [d, d] = .ok (.bl true) := by
  induction n with
  | zero => intro d h; unfold Pl at h; exact h.elim
  | succ n ih =>
    intro d h
    cases d with
    | int i => exact same_int n i
    | str i => exact same_s n i
    | non => exact same_non n
    | tup ds => exact same_tup n ds h.1 fun d hd => ih d (h.2 d hd)
    | lst ds => exact same_lst n ds h.1 fun d hd => ih d (h.2 d hd)
    | _ => unfold Pl at h; exact h.elim
def oneOf (i : Int) (k : Nat) : Int := ((((if i < 0 then -i else i) + 1) * 48271 + ((k : Int) + 1) * 69621)) % 2147483647
def lastOf (i : Int) (k : Nat) : Int := ((oneOf i k * 16807 + (k : Int) * 7919) % 2147483629) / 7
theorem draws_step {c n : D} {i : Int} {ds : List Int} {rest : Int} {x y : Sl} {k : Nat} (hc : c = .int i) (hl : ds.length < 16777216) (hb : Bd ds) :
    ∃ ρ', (tgN 4 (.int (k : Nat)) [.fz c, .fz n, .ow (ds.map D.int), .fz (.int rest), x, y] >>= b__law_draws_0) = .ok (.nx ρ') ∧
      ∃ (e : Int) (r : Int) (x' y' : Sl), ρ' = [.fz c, .fz n, .ow ((ds ++ [e]).map D.int), .fz (.int r), x', y'] ∧ Bd (ds ++ [e]) := by
  subst hc
  have hB : ∀ e : Int, 0 ≤ e ∧ e < 1009 → Bd (ds ++ [e]) := fun e he d hd => by
    rcases List.mem_append.mp hd with hd | hd
    · exact hb d hd
    · rw [List.mem_singleton.mp hd]; exact he
  have hm : ∀ e : Int, ds.map D.int ++ [D.int e] = (ds ++ [e]).map D.int := fun e => by rw [List.map_append]; rfl
  rw [tgN_ap, R.okb]
  simp only [List.set_cons_succ, List.set_cons_zero]
  unfold b__law_draws_0
  by_cases hr : 0 < rest
  · refine ⟨_, if_t ?_ (seq_go' (app_of (ds := ds.map D.int) (d := .int (rest % 1009)) ?_ ?_ (by rw [List.length_map]; exact hl)) (set_of (d := .int (rest / 1009)) ?_)), ?_⟩
    · simp only [tst_ap, eBin_ap, eVar_s, eVar_z, eC_ap, R.okb, dGt_i, asB_bl, decide_eq_true hr]
    · simp only [eOwn_s, eOwn_z]
    · simp only [eBin_ap, eCall_ap, eCons_ap, eNil_ap, eVar_s, eVar_z, eC_ap, R.okb, dInt_i]
      exact dMod_i (by decide)
    · simp only [List.set_cons_succ, List.set_cons_zero, eBin_ap, eVar_s, eVar_z, eC_ap, R.okb]
      exact dFdiv_i (by decide) (by decide)
    · refine ⟨rest % 1009, rest / 1009, .fz (.int (k : Nat)), y, ?_, hB _ (m1009 _)⟩
      simp only [List.set_cons_succ, List.set_cons_zero, hm]
  · refine ⟨_, if_f ?_ (seq_go' (set_of (d := .int (oneOf i k)) ?_) (app_of (ds := ds.map D.int) (d := .int (lastOf i k % 1009)) ?_ ?_ (by rw [List.length_map]; exact hl))), ?_⟩
    · simp only [tst_ap, eBin_ap, eVar_s, eVar_z, eC_ap, R.okb, dGt_i, asB_bl, decide_eq_false hr]
    · simp only [eBin_ap, eCall_ap, eCons_ap, eNil_ap, eVar_s, eVar_z, eC_ap, R.okb, dInt_i, dAbs_i, dAdd_i]
      rw [dMul_r (by decide)]
      simp only [R.okb]
      rw [dMul_r (by decide)]
      simp only [R.okb, dAdd_i, dInt_i]
      exact dMod_i (by decide)
    · simp only [List.set_cons_succ, List.set_cons_zero, eOwn_s, eOwn_z]
    · simp only [List.set_cons_succ, List.set_cons_zero, eBin_ap, eCall_ap, eCons_ap, eNil_ap, eVar_s, eVar_z, eC_ap, R.okb, dInt_i, dAdd_i]
      rw [dMul_r (by decide)]
      simp only [R.okb]
      rw [dMul_r (by decide)]
      simp only [R.okb, dAdd_i, dInt_i]
      rw [dMod_i (by decide)]
      simp only [R.okb]
      rw [dFdiv_i (by decide) (by decide)]
      simp only [R.okb]
      exact dMod_i (by decide)
    · refine ⟨lastOf i k % 1009, rest, .fz (.int (k : Nat)), .fz (.int (oneOf i k)), ?_, hB _ (m1009 _)⟩
      simp only [List.set_cons_succ, List.set_cons_zero, hm]
theorem pow18 : dPow (.int 10) (.int 18) = .ok (.int (10 ^ 18)) := rfl
theorem law_draws (c : Int) {n : Nat} (hn : n < 1000) : ∃ ds : List Int, m__law_draws [.int c, .int (n : Nat)] = .ok (.lst (ds.map D.int)) ∧ ds.length = n ∧ Bd ds := by
  unfold m__law_draws
  rw [runD2]
  unfold b__law_draws
  generalize hr : (if c < 0 then -c else c) = r0
  have h3 : ∃ r1 : Int, sIf (tst (eBin dLt (eVar 3) (eBin dPow (eC (.int 10)) (eC (.int 18))))) (sSet 3 (eC (.int 0))) sNext [.fz (.int c), .fz (.int (n : Nat)), .ow [], .fz (.int r0), .un, .un] = .ok (.nx [.fz (.int c), .fz (.int (n : Nat)), .ow [], .fz (.int r1), .un, .un]) := by
    by_cases h : r0 < 10 ^ 18
    · refine ⟨0, if_t ?_ (set_of rfl)⟩
      simp only [tst_ap, eBin_ap, eVar_s, eVar_z, eC_ap, R.okb, pow18, dLt_i, asB_bl, decide_eq_true h]
    · refine ⟨r0, if_f ?_ rfl⟩
      simp only [tst_ap, eBin_ap, eVar_s, eVar_z, eC_ap, R.okb, pow18, dLt_i, asB_bl, decide_eq_false h]
  obtain ⟨r1, h3⟩ := h3
  obtain ⟨ρ', e1, ds, r2, x, y, e2, e3, e4⟩ := forRng_inv (tg := tgN 4) (body := b__law_draws_0) (n := n) (fun k ρ => ∃ (ds : List Int) (rest : Int) (x y : Sl), ρ = [.fz (.int c), .fz (.int (n : Nat)), .ow (ds.map D.int), .fz (.int rest), x, y] ∧ ds.length = k ∧ Bd ds)
    (fun k hk ρ ⟨ds, rest, x, y, e, hl, hb⟩ => by
      subst e
      obtain ⟨ρ', e1, e, r, x', y', e2, e3⟩ := draws_step (c := .int c) (n := .int (n : Nat)) (rest := rest) (x := x) (y := y) (k := k) rfl (by omega) hb
      exact ⟨ρ', e1, ds ++ [e], r, x', y', e2, by rw [List.length_append, hl]; rfl, e3⟩)
    [.fz (.int c), .fz (.int (n : Nat)), .ow [], .fz (.int r1), .un, .un] ⟨[], r1, .un, .un, rfl, rfl, fun d h => by cases h⟩
  refine ⟨ds, ?_, e3, e4⟩
  refine seq_go (setO_of (ds := []) ?_) ?_
  · simp only [eLst_ap, eNil_ap, R.okb]; rfl
  refine seq_go (set_of (d := .int r0) ?_) ?_
  · simp only [List.replicate, List.set_cons_succ, List.set_cons_zero, eCall_ap, eCons_ap, eNil_ap, eVar_z, R.okb, dAbs_i, hr]
  simp only [List.replicate, List.set_cons_succ, List.set_cons_zero]
  refine seq_go h3 ?_
  refine seq_go (ρ' := ρ') ?_ ?_
  · rw [sFor_rng n (by simp only [eCons_ap, eVar_s, eVar_z, eNil_ap, R.okb]) rfl (by omega)]
    exact e1
  · subst e2
    rfl
theorem law_cell (ns : List Int) (k : Nat) : ∃ c : Int, m__law_cell [.rol (ns.map D.int), .int (k : Nat)] = .ok (.int c) := by
  unfold m__law_cell
  rw [runD2]
  unfold b__law_cell
  have t : tst (eBin dLt (eVar 1) (eCall dLen (eCons (eVar 0) eNil))) (.fz (.rol (ns.map D.int)) :: .fz (.int (k : Nat)) :: List.replicate 0 .un) = .ok (decide (((k : Nat) : Int) < (ns.length : Nat))) := by
    simp only [tst_ap, eBin_ap, eCall_ap, eCons_ap, eNil_ap, eVar_s, eVar_z, R.okb, dLen_r, dLt_i, asB_bl, List.length_map]
  by_cases h : k < ns.length
  · rw [decide_eq_true (by omega)] at t
    refine ⟨ns[k], seq_rt (if_t t (ret_of ?_))⟩
    simp only [eBin_ap, eVar_s, eVar_z, R.okb]
    exact dIx_r (by rw [List.getElem?_map, List.getElem?_eq_getElem h]; rfl)
  · rw [decide_eq_false (by omega)] at t
    exact ⟨0, seq_go (if_f t rfl) (ret_out rfl)⟩
end K17

/-! the sums and products of the drawn kinds stay in range: all cases looked at -/
namespace K17
open PySem PySem.Spec PyProof.Rows L2 DD
def combos : List (Nat × Nat × Nat) := [(0, 2, 1), (0, 2, 2), (0, 2, 3), (0, 2, 4), (0, 2, 5), (0, 2, 6), (1, 2, 2), (1, 2, 3), (1, 2, 4), (1, 2, 5), (1, 2, 6), (2, 2, 2), (2, 2, 3), (2, 2, 4), (2, 2, 5), (2, 2, 6), (3, 2, 4), (4, 2, 6), (5, 2, 4), (5, 3, 6), (6, 2, 5)]
def inR (s : Nat) : R D → Bool
  | .ok (.int r) => decide (0 ≤ r) && decide (r < (s : Int))
  | _ => false
def chkS (k w s : Nat) : Bool := (List.range s).all fun x => (List.range s).all fun y => inR s (m__law_sum [.int (k : Int), .int (w : Int), .int (x : Int), .int (y : Int)])
def chkT (k w s t : Nat) : Bool := (List.range s).all fun x => (List.range s).all fun y => inR s (m__law_times [.int (k : Int), .int (w : Int), .int (s : Int), .int (t : Int), .int (x : Int), .int (y : Int)])
theorem sum_all : (combos.all fun c => chkS c.1 c.2.1 c.2.2) = true := by decide +kernel
theorem times_all : (combos.all fun c => chkT c.1 c.2.1 c.2.2 0 && chkT c.1 c.2.1 c.2.2 1) = true := by decide +kernel
theorem inR_of {s : Nat} {r : R D} (h : inR s r = true) : ∃ n : Nat, n < s ∧ r = .ok (.int (n : Nat)) := by
  unfold inR at h
  split at h
  · rename_i i
    rw [Bool.and_eq_true] at h
    have h1 := of_decide_eq_true h.1
    have h2 := of_decide_eq_true h.2
    exact ⟨i.toNat, by omega, by rw [Int.toNat_of_nonneg h1]⟩
  · cases h
theorem sum_in {k w s x y : Nat} (hc : (k, w, s) ∈ combos) (hx : x < s) (hy : y < s) : ∃ n : Nat, n < s ∧ m__law_sum [.int (k : Int), .int (w : Int), .int (x : Int), .int (y : Int)] = .ok (.int (n : Nat)) := by
  have h := List.all_eq_true.mp sum_all _ hc
  unfold chkS at h
  exact inR_of (List.all_eq_true.mp (List.all_eq_true.mp h x (List.mem_range.mpr hx)) y (List.mem_range.mpr hy))
theorem times_in {k w s t x y : Nat} (hc : (k, w, s) ∈ combos) (ht : t < 2) (hx : x < s) (hy : y < s) : ∃ n : Nat, n < s ∧ m__law_times [.int (k : Int), .int (w : Int), .int (s : Int), .int (t : Int), .int (x : Int), .int (y : Int)] = .ok (.int (n : Nat)) := by
  have h := List.all_eq_true.mp times_all _ hc
  rw [Bool.and_eq_true] at h
  have h' : chkT k w s t = true := by
    rcases (by omega : t = 0 ∨ t = 1) with rfl | rfl
    · exact h.1
    · exact h.2
  unfold chkT at h'
  exact inR_of (List.all_eq_true.mp (List.all_eq_true.mp h' x (List.mem_range.mpr hx)) y (List.mem_range.mpr hy))
end K17

/-! tables as lists; the drawn one -/
namespace K17
open PySem PySem.Spec PyProof.Rows L2 DD
variable [Iota]
def nums (l : List Nat) : List D := l.map fun x => D.int (x : Nat)
def rowD (l : List Nat) : D := .tup (nums l)
def matD (m : List (List Nat)) : D := .tup (m.map rowD)
structure Tb where
  n : Nat
  s : List (List Nat)
  p : List (List Nat)
  z : Nat
  o : Nat
def Tb.d (T : Tb) : D := .tup [matD T.s, matD T.p, .int (T.z : Nat), .int (T.o : Nat)]
def RowOk (n : Nat) (l : List Nat) : Prop := l.length = n ∧ ∀ x ∈ l, x < n
def MatOk (n : Nat) (m : List (List Nat)) : Prop := m.length = n ∧ ∀ l ∈ m, RowOk n l
structure Tb.WF (T : Tb) : Prop where
  n1 : 1 ≤ T.n
  n6 : T.n ≤ 6
  s : MatOk T.n T.s
  p : MatOk T.n T.p
  z : T.z < T.n
  o : T.o < T.n
theorem nums_len (l : List Nat) : (nums l).length = l.length := List.length_map _
theorem nums_app (l : List Nat) (x : Nat) : nums l ++ [D.int (x : Nat)] = nums (l ++ [x]) := by unfold nums; rw [List.map_append]; rfl
theorem nums_get {l : List Nat} {i x : Nat} (h : l[i]? = some x) : (nums l)[i]? = some (.int (x : Nat)) := by unfold nums; rw [List.getElem?_map, h]; rfl
/-! ### order.index -/
theorem toPys_nums : ∀ l : List Nat, toPys (nums l) = some (l.map fun x => PyData.int (x : Nat))
  | [] => rfl
  | x :: l => by
    show (match toPy (.int (x : Nat)), toPys (nums l) with
      | some p, some ps => some (p :: ps)
      | _, _ => none) = _
    rw [toPys_nums l]
    rfl
theorem can_nums : ∀ l : List Nat, PyData.canLayAll0 (l.map fun x => PyData.int (x : Nat)) = true
  | [] => rfl
  | x :: l => by
    show (PyData.canLay0 (.int (x : Nat)) && PyData.canLayAll0 (l.map fun x => PyData.int (x : Nat))) = true
    rw [can_nums l]; rfl
theorem dep_nums : ∀ l : List Nat, PyData.depthAll (l.map fun x => PyData.int (x : Nat)) ≤ PyData.depth (.int 0)
  | [] => Nat.zero_le _
  | x :: l => Nat.max_le.mpr ⟨Nat.le_refl _, dep_nums l⟩
theorem index_nums {l : List Nat} {x : Nat} (h : x ∈ l) : ∃ j : Nat, j < l.length ∧ dIndexL (nums l) (.int (x : Nat)) = .ok (.int (j : Nat)) := by
  have e : ∃ j, (l.map fun x => PyData.int (x : Nat)).findIdx? (fun z => PyData.eqv z (.int (x : Nat))) = some j := by
    cases hf : (l.map fun x => PyData.int (x : Nat)).findIdx? (fun z => PyData.eqv z (.int (x : Nat))) with
    | some j => exact ⟨j, rfl⟩
    | none =>
      rw [List.findIdx?_eq_none_iff] at hf
      have := hf _ (List.mem_map.mpr ⟨x, h, rfl⟩)
      have e2 : PyData.eqv (.int (x : Nat)) (.int (x : Nat)) = (((x : Nat) : Int) == ((x : Nat) : Int)) := rfl
      rw [e2, beq_self_eq_true] at this
      cases this
  obtain ⟨j, e⟩ := e
  refine ⟨j, ?_, ?_⟩
  · have := List.findIdx?_eq_some_iff_getElem.mp e
    obtain ⟨hlt, _⟩ := this
    simpa using hlt
  · unfold dIndexL
    rw [toPys_nums]
    show (guardR (SeqAt.shaped (.list (l.map fun x => PyData.int (x : Nat))) && SeqAt.shaped (.int (x : Nat))) >>= fun _ => _) = _
    have hs : SeqAt.shaped (.list (l.map fun x => PyData.int (x : Nat))) = true := by
      unfold SeqAt.shaped
      rw [Bool.and_eq_true]
      refine ⟨can_nums l, decide_eq_true ?_⟩
      have h1 := dep_nums l
      show PyData.depthAll _ + 1 ≤ 64
      have h2 : PyData.depth (.int 0) ≤ 1 := by decide
      omega
    rw [hs, show SeqAt.shaped (.int (x : Nat)) = true from rfl]
    show (R.ok () >>= fun _ => _) = _
    rw [R.okb, e]
end K17

/-! the loops of the drawn table -/
namespace K17
open PySem PySem.Spec PyProof.Rows L2 DD
variable [Iota]
structure PermOk (s : Nat) (l : List Nat) : Prop where
  len : l.length = s
  lt : ∀ x ∈ l, x < s
  all : ∀ x, x < s → x ∈ l
theorem ins_of {i : Nat} {kf f : En → R D} {ρ : En} {ds : List D} {p : Nat} {d : D} (h1 : eOwn i ρ = .ok ds) (h2 : kf ρ = .ok (.int (p : Nat))) (h3 : f ρ = .ok d) (h4 : ds.length < 1000) (h5 : p < 1000) : sIns i kf f ρ = .ok (.nx (ρ.set i (.ow (ds.take p ++ [d] ++ ds.drop p)))) := by
  unfold sIns
  rw [h1]
  show (kf ρ >>= fun j => f ρ >>= fun d => _) = _
  rw [h2]
  show (f ρ >>= fun d => _) = _
  rw [h3]
  show (guardR (decide (ds.length < 16777216) && decide ((0 : Int) ≤ (p : Nat)) && decide (((p : Nat) : Int) < 2 ^ 63)) >>= fun _ => R.ok (Out.nx (ρ.set i (.ow (ds.take ((p : Nat) : Int).toNat ++ [d] ++ ds.drop ((p : Nat) : Int).toNat))))) = _
  have g : (decide (ds.length < 16777216) && decide ((0 : Int) ≤ (p : Nat)) && decide (((p : Nat) : Int) < 2 ^ 63)) = true := by
    rw [Bool.and_eq_true, Bool.and_eq_true]
    exact ⟨⟨decide_eq_true (by omega), decide_eq_true (by omega)⟩, decide_eq_true (by omega)⟩
  rw [guardR_of g, R.okb, Int.toNat_natCast]
theorem perm_ins {k : Nat} {l : List Nat} (h : PermOk k l) (p : Nat) : PermOk (k + 1) (l.take p ++ [k] ++ l.drop p) := by
  have hm : ∀ x, x ∈ l.take p ++ [k] ++ l.drop p ↔ x ∈ l ∨ x = k := fun x => by
    have := List.take_append_drop p l
    constructor
    · intro hx
      rcases List.mem_append.mp hx with hx | hx
      · rcases List.mem_append.mp hx with hx | hx
        · exact .inl (List.mem_of_mem_take hx)
        · exact .inr (List.mem_singleton.mp hx)
      · exact .inl (List.mem_of_mem_drop hx)
    · rintro (hx | rfl)
      · rw [← this] at hx
        rcases List.mem_append.mp hx with hx | hx
        · exact List.mem_append_left _ (List.mem_append_left _ hx)
        · exact List.mem_append_right _ hx
      · exact List.mem_append_left _ (List.mem_append_right _ (List.mem_singleton.mpr rfl))
  refine ⟨?_, fun x hx => ?_, fun x hx => ?_⟩
  · have := h.len
    simp only [List.length_append, List.length_take, List.length_drop, List.length_singleton]
    omega
  · rcases (hm x).mp hx with h' | rfl
    · have := h.lt x h'; omega
    · omega
  · rw [hm]
    by_cases e : x = k
    · exact .inr e
    · exact .inl (h.all x (by omega))
theorem lst_get {ds : List Int} {i : Nat} (h : i < ds.length) : dIx (.lst (ds.map D.int)) (.int ((i : Nat) : Int)) = .ok (.int ds[i]) := dIx_l (by rw [List.getElem?_map, List.getElem?_eq_getElem h]; rfl)
theorem order_step {ds : List Int} (hl : ds.length = 10) {k : Nat} (hk : k < 6) {l : List Nat} (h : PermOk k l) {a1 a2 a3 a4 a5 a6 a8 : Sl} {r : En} :
    ∃ ρ', (tgN 8 (.int (k : Nat)) (.fz (.lst (ds.map D.int)) :: a1 :: a2 :: a3 :: a4 :: a5 :: a6 :: .ow (nums l) :: a8 :: r) >>= b__law_table_0) = .ok (.nx ρ') ∧
      ∃ l', PermOk (k + 1) l' ∧ ρ' = .fz (.lst (ds.map D.int)) :: a1 :: a2 :: a3 :: a4 :: a5 :: a6 :: .ow (nums l') :: .fz (.int (k : Nat)) :: r := by
  rw [tgN_ap, R.okb]
  simp only [List.set_cons_succ, List.set_cons_zero]
  unfold b__law_table_0
  have hm0 : 0 ≤ ds[4 + k] % ((k : Int) + 1) := Int.emod_nonneg _ (by omega)
  have hm1 : ds[4 + k] % ((k : Int) + 1) < (k : Int) + 1 := Int.emod_lt_of_pos _ (by omega)
  refine ⟨_, ins_of (p := (ds[4 + k] % ((k : Int) + 1)).toNat) (d := .int (k : Nat)) (ds := nums l) ?_ ?_ ?_ ?_ ?_, _, perm_ins h (ds[4 + k] % ((k : Int) + 1)).toNat, ?_⟩
  · simp only [eOwn_s, eOwn_z]
  · have ix : dIx (.lst (ds.map D.int)) (.int (4 + (k : Int))) = .ok (.int ds[4 + k]) := by
      have := lst_get (ds := ds) (i := 4 + k) (by omega)
      rw [show ((4 + k : Nat) : Int) = 4 + (k : Int) by omega] at this
      exact this
    simp only [eBin_ap, eCall_ap, eCons_ap, eNil_ap, eVar_s, eVar_z, eC_ap, R.okb, dAdd_i, ix, dInt_i]
    rw [dMod_i (by omega), Int.toNat_of_nonneg hm0]
  · simp only [eVar_s, eVar_z]
  · rw [nums_len, h.len]; omega
  · omega
  · simp only [List.set_cons_succ, List.set_cons_zero]
    congr 8
    unfold nums
    simp only [List.map_append, List.map_take, List.map_drop, List.map_cons, List.map_nil]
end K17

/-! one cell, one row -/
namespace K17
open PySem PySem.Spec PyProof.Rows L2 DD
variable [Iota]
theorem nums_ix {l : List Nat} {i : Nat} (h : i < l.length) : dIx (.lst (nums l)) (.int ((i : Nat) : Int)) = .ok (.int (l[i] : Nat)) := dIx_l (nums_get (List.getElem?_eq_getElem h))
/-- the environment of the loops -/
def tEn (ds : List Int) (k t w s : Nat) (a4 a6 : Sl) (ord : List Nat) (a8 a9 a10 a11 : Sl) (x : D) (r c : List Nat) (a15 a16 : Sl) : En :=
  [.fz (.lst (ds.map D.int)), .fz (.int (k : Nat)), .fz (.int (t : Nat)), .fz (.int (w : Nat)), a4, .fz (.int (s : Nat)), a6, .ow (nums ord), a8, a9, a10, a11, .fz x, .ow (nums r), .ow (nums c), a15, a16]
theorem cell_step {ds : List Int} (hl : ds.length = 10) {k t w s : Nat} (hc : (k, w, s) ∈ combos) (ht : t < 2) {ord : List Nat} (hp : PermOk s ord) (hs6 : s ≤ 6) {x : Nat} (hx : x < s) {j : Nat} (hj : j < s) {r c : List Nat} (hr : r.length = j) (hcl : c.length = j) {a4 a6 a8 a9 a10 a11 a15 a16 : Sl} :
    ∃ ρ', (tgN 15 (.int (j : Nat)) (tEn ds k t w s a4 a6 ord a8 a9 a10 a11 (.int (x : Nat)) r c a15 a16) >>= b__law_table_1) = .ok (.nx ρ') ∧
      ∃ (u v : Nat) (a15' a16' : Sl), u < s ∧ v < s ∧ ρ' = tEn ds k t w s a4 a6 ord a8 a9 a10 a11 (.int (x : Nat)) (r ++ [u]) (c ++ [v]) a15' a16' := by
  obtain ⟨y, hy, ey⟩ := index_nums (hp.all j hj)
  rw [hp.len] at hy
  obtain ⟨m, hm, em⟩ := sum_in hc hx hy
  obtain ⟨m1, hm1, em1⟩ := times_in hc ht hx hy
  obtain ⟨m2, hm2, em2⟩ := times_in hc ht hy hx
  have gx : ∀ m : Nat, m < s → ∃ u, u < s ∧ dIx (.lst (nums ord)) (.int (m : Nat)) = .ok (.int (u : Nat)) := fun m hm => by
    have : m < ord.length := by rw [hp.len]; exact hm
    exact ⟨ord[m], hp.lt _ (List.getElem_mem this), nums_ix this⟩
  obtain ⟨u, hu, eu⟩ := gx m hm
  obtain ⟨v1, hv1, ev1⟩ := gx m1 hm1
  obtain ⟨v2, hv2, ev2⟩ := gx m2 hm2
  have ix2 : dIx (.lst (ds.map D.int)) (.int 2) = .ok (.int ds[2]) := lst_get (ds := ds) (i := 2) (by omega)
  unfold tEn
  rw [tgN_ap, R.okb]
  simp only [List.set_cons_succ, List.set_cons_zero]
  unfold b__law_table_1
  by_cases hd : ds[2] % 2 = 0
  · refine ⟨_, seq_go' (set_of (d := .int (y : Nat)) ?_) (seq_go' (app_of (ds := nums r) (d := .int (u : Nat)) ?_ ?_ ?_) (if_t ?_ (app_of (ds := nums c) (d := .int (v1 : Nat)) ?_ ?_ ?_))), u, v1, .fz (.int (j : Nat)), .fz (.int (y : Nat)), hu, hv1, ?_⟩
    · show (eOwn 7 _ >>= fun ds => eVar 15 _ >>= fun x => dIndexL ds x) = _
      simp only [eOwn_s, eOwn_z, eVar_s, eVar_z, R.okb, ey]
    · simp only [List.set_cons_succ, List.set_cons_zero, eOwn_s, eOwn_z]
    · simp only [List.set_cons_succ, List.set_cons_zero]
      show (eOwn 7 _ >>= fun ds => eCall m__law_sum _ _ >>= fun d => dIx (.lst ds) d) = _
      simp only [eOwn_s, eOwn_z, eCall_ap, eCons_ap, eNil_ap, eVar_s, eVar_z, R.okb, em, eu]
    · rw [nums_len, hr]; omega
    · simp only [List.set_cons_succ, List.set_cons_zero, tst_ap, eBin_ap, eCall_ap, eCons_ap, eNil_ap, eVar_s, eVar_z, eC_ap, R.okb, ix2, dInt_i]
      rw [dMod_i (by decide), R.okb, hd]
      rfl
    · simp only [List.set_cons_succ, List.set_cons_zero, eOwn_s, eOwn_z]
    · simp only [List.set_cons_succ, List.set_cons_zero]
      show (eOwn 7 _ >>= fun ds => eCall m__law_times _ _ >>= fun d => dIx (.lst ds) d) = _
      simp only [eOwn_s, eOwn_z, eCall_ap, eCons_ap, eNil_ap, eVar_s, eVar_z, R.okb, em1, ev1]
    · rw [nums_len, hcl]; omega
    · simp only [List.set_cons_succ, List.set_cons_zero, nums_app]
  · refine ⟨_, seq_go' (set_of (d := .int (y : Nat)) ?_) (seq_go' (app_of (ds := nums r) (d := .int (u : Nat)) ?_ ?_ ?_) (if_f ?_ (app_of (ds := nums c) (d := .int (v2 : Nat)) ?_ ?_ ?_))), u, v2, .fz (.int (j : Nat)), .fz (.int (y : Nat)), hu, hv2, ?_⟩
    · show (eOwn 7 _ >>= fun ds => eVar 15 _ >>= fun x => dIndexL ds x) = _
      simp only [eOwn_s, eOwn_z, eVar_s, eVar_z, R.okb, ey]
    · simp only [List.set_cons_succ, List.set_cons_zero, eOwn_s, eOwn_z]
    · simp only [List.set_cons_succ, List.set_cons_zero]
      show (eOwn 7 _ >>= fun ds => eCall m__law_sum _ _ >>= fun d => dIx (.lst ds) d) = _
      simp only [eOwn_s, eOwn_z, eCall_ap, eCons_ap, eNil_ap, eVar_s, eVar_z, R.okb, em, eu]
    · rw [nums_len, hr]; omega
    · simp only [List.set_cons_succ, List.set_cons_zero, tst_ap, eBin_ap, eCall_ap, eCons_ap, eNil_ap, eVar_s, eVar_z, eC_ap, R.okb, ix2, dInt_i]
      rw [dMod_i (by decide), R.okb, dEq_i, R.okb]
      simpa using hd
    · simp only [List.set_cons_succ, List.set_cons_zero, eOwn_s, eOwn_z]
    · simp only [List.set_cons_succ, List.set_cons_zero]
      show (eOwn 7 _ >>= fun ds => eCall m__law_times _ _ >>= fun d => dIx (.lst ds) d) = _
      simp only [eOwn_s, eOwn_z, eCall_ap, eCons_ap, eNil_ap, eVar_s, eVar_z, R.okb, em2, ev2]
    · rw [nums_len, hcl]; omega
    · simp only [List.set_cons_succ, List.set_cons_zero, nums_app]
end K17

/-! the whole drawn table -/
namespace K17
open PySem PySem.Spec PyProof.Rows L2 DD
variable [Iota]
def rowsOk (n : Nat) (m : List (List Nat)) : Prop := ∀ l ∈ m, RowOk n l
def uEn (ds : List Int) (k t w s : Nat) (a4 a6 : Sl) (ord : List Nat) (a8 : Sl) (S Pm : List (List Nat)) (a11 a12 a13 a14 a15 a16 : Sl) : En :=
  [.fz (.lst (ds.map D.int)), .fz (.int (k : Nat)), .fz (.int (t : Nat)), .fz (.int (w : Nat)), a4, .fz (.int (s : Nat)), a6, .ow (nums ord), a8, .ow (S.map rowD), .ow (Pm.map rowD), a11, a12, a13, a14, a15, a16]
theorem row_step {ds : List Int} (hl : ds.length = 10) {k t w s : Nat} (hc : (k, w, s) ∈ combos) (ht : t < 2) {ord : List Nat} (hp : PermOk s ord) (hs6 : s ≤ 6) {i : Nat} (hi : i < s) {S Pm : List (List Nat)} (hS : S.length = i) (hP : Pm.length = i) (oS : rowsOk s S) (oP : rowsOk s Pm) {a4 a6 a8 a11 a12 a13 a14 a15 a16 : Sl} :
    ∃ ρ', (tgN 11 (.int (i : Nat)) (uEn ds k t w s a4 a6 ord a8 S Pm a11 a12 a13 a14 a15 a16) >>= b__law_table_2) = .ok (.nx ρ') ∧
      ∃ (S' P' : List (List Nat)) (b11 b12 b13 b14 b15 b16 : Sl), S'.length = i + 1 ∧ P'.length = i + 1 ∧ rowsOk s S' ∧ rowsOk s P' ∧ ρ' = uEn ds k t w s a4 a6 ord a8 S' P' b11 b12 b13 b14 b15 b16 := by
  obtain ⟨x, hx, ex⟩ := index_nums (hp.all i hi)
  rw [hp.len] at hx
  obtain ⟨ρ1, e1, r, c, b15, b16, h1, h2, h3, h4, h5⟩ := forRng_inv (tg := tgN 15) (body := b__law_table_1) (n := s)
    (fun j ρ => ∃ (r c : List Nat) (b15 b16 : Sl), r.length = j ∧ c.length = j ∧ (∀ z ∈ r, z < s) ∧ (∀ z ∈ c, z < s) ∧ ρ = tEn ds k t w s a4 a6 ord a8 (.ow (S.map rowD)) (.ow (Pm.map rowD)) (.fz (.int (i : Nat))) (.int (x : Nat)) r c b15 b16)
    (fun j hj ρ ⟨r, c, b15, b16, h1, h2, h3, h4, e⟩ => by
      subst e
      obtain ⟨ρ', e1, u, v, c15, c16, hu, hv, e2⟩ := cell_step hl hc ht hp hs6 hx hj h1 h2 (a4 := a4) (a6 := a6) (a8 := a8) (a9 := .ow (S.map rowD)) (a10 := .ow (Pm.map rowD)) (a11 := .fz (.int (i : Nat))) (a15 := b15) (a16 := b16)
      refine ⟨ρ', e1, r ++ [u], c ++ [v], c15, c16, by simp [h1], by simp [h2], fun z hz => ?_, fun z hz => ?_, e2⟩
      · rcases List.mem_append.mp hz with hz | hz
        · exact h3 z hz
        · rw [List.mem_singleton.mp hz]; exact hu
      · rcases List.mem_append.mp hz with hz | hz
        · exact h4 z hz
        · rw [List.mem_singleton.mp hz]; exact hv)
    (tEn ds k t w s a4 a6 ord a8 (.ow (S.map rowD)) (.ow (Pm.map rowD)) (.fz (.int (i : Nat))) (.int (x : Nat)) [] [] a15 a16) ⟨[], [], a15, a16, rfl, rfl, (fun z h => by cases h), (fun z h => by cases h), rfl⟩
  subst h5
  unfold uEn
  rw [tgN_ap, R.okb]
  simp only [List.set_cons_succ, List.set_cons_zero]
  unfold b__law_table_2
  refine ⟨_, seq_go' (set_of (d := .int (x : Nat)) ?_) (seq_go' (setO_of (ds := []) rfl) (seq_go' (setO_of (ds := []) rfl) (seq_go' (ρ' := tEn ds k t w s a4 a6 ord a8 (.ow (S.map rowD)) (.ow (Pm.map rowD)) (.fz (.int (i : Nat))) (.int (x : Nat)) r c b15 b16) ?_ (seq_go' (app_of (ds := S.map rowD) (d := rowD r) ?_ ?_ ?_) (app_of (ds := Pm.map rowD) (d := rowD c) ?_ ?_ ?_))))),
    S ++ [r], Pm ++ [c], .fz (.int (i : Nat)), .fz (.int (x : Nat)), .ow (nums r), .ow (nums c), b15, b16, by simp [hS], by simp [hP], fun l h => ?_, fun l h => ?_, ?_⟩
  · show (eOwn 7 _ >>= fun ds => eVar 11 _ >>= fun x => dIndexL ds x) = _
    simp only [eOwn_s, eOwn_z, eVar_s, eVar_z, R.okb, ex]
  · simp only [List.set_cons_succ, List.set_cons_zero]
    rw [sFor_rng s (by simp only [eCons_ap, eVar_s, eVar_z, eNil_ap, R.okb]) rfl (by omega)]
    exact e1
  · unfold tEn; simp only [eOwn_s, eOwn_z]
  · unfold tEn
    show (eOwn 13 _ >>= dTupL) = _
    simp only [eOwn_s, eOwn_z, R.okb, dTupL_ap]
    rfl
  · rw [List.length_map, hS]; omega
  · unfold tEn; simp only [List.set_cons_succ, List.set_cons_zero, eOwn_s, eOwn_z]
  · unfold tEn
    simp only [List.set_cons_succ, List.set_cons_zero]
    show (eOwn 14 _ >>= dTupL) = _
    simp only [eOwn_s, eOwn_z, R.okb, dTupL_ap]
    rfl
  · rw [List.length_map, hP]; omega
  · rcases List.mem_append.mp h with h | h
    · exact oS l h
    · rw [List.mem_singleton.mp h]; exact ⟨h1, h3⟩
  · rcases List.mem_append.mp h with h | h
    · exact oP l h
    · rw [List.mem_singleton.mp h]; exact ⟨h2, h4⟩
  · unfold tEn
    simp only [List.set_cons_succ, List.set_cons_zero, List.map_append, List.map_cons, List.map_nil]
/-- the numbers of the kinds: size and one -/
def szOf (k w d1 : Nat) : Nat := match k with
  | 0 => 1 + d1 % 6
  | 1 => 2 + d1 % 5
  | 2 => 2 + d1 % 5
  | 3 => 4
  | 4 => 6
  | 5 => 2 * w
  | _ => 5
def oneN (k s : Nat) : Nat := match k with
  | 0 => s - 1
  | 1 => 1
  | 2 => 1
  | 3 => 1
  | 4 => 4
  | 5 => s - 1
  | _ => 2
def wOf (k d1 : Nat) : Nat := if k = 5 then 2 + d1 % 2 else 2
theorem kinds : (List.range 7).all (fun k => (List.range 30).all fun d => decide ((k, wOf k d, szOf k (wOf k d) d) ∈ combos) && decide (oneN k (szOf k (wOf k d) d) < szOf k (wOf k d) d)) = true := by decide +kernel
theorem szOf_mod (k w d : Nat) : szOf k w (d % 30) = szOf k w d := by
  have h1 : d % 30 % 6 = d % 6 := by omega
  have h2 : d % 30 % 5 = d % 5 := by omega
  unfold szOf
  split <;> first | rw [h1] | rw [h2] | rfl
theorem wOf_mod (k d : Nat) : wOf k (d % 30) = wOf k d := by
  have h1 : d % 30 % 2 = d % 2 := by omega
  unfold wOf
  rw [h1]
theorem kind_in {k : Nat} (hk : k < 7) (d : Nat) : (k, wOf k d, szOf k (wOf k d) d) ∈ combos ∧ oneN k (szOf k (wOf k d) d) < szOf k (wOf k d) d := by
  have h := List.all_eq_true.mp (List.all_eq_true.mp kinds k (List.mem_range.mpr hk)) (d % 30) (List.mem_range.mpr (Nat.mod_lt _ (by decide)))
  rw [wOf_mod, szOf_mod, Bool.and_eq_true] at h
  exact ⟨of_decide_eq_true h.1, of_decide_eq_true h.2⟩
theorem combos_sz : combos.all (fun c => decide (1 ≤ c.2.2) && decide (c.2.2 ≤ 6)) = true := by decide +kernel
theorem sz6 {k w s : Nat} (h : (k, w, s) ∈ combos) : 1 ≤ s ∧ s ≤ 6 := by
  have := List.all_eq_true.mp combos_sz _ h
  rw [Bool.and_eq_true] at this
  exact ⟨of_decide_eq_true this.1, of_decide_eq_true this.2⟩
end K17

/-! the drawn table -/
namespace K17
open PySem PySem.Spec PyProof.Rows L2 DD
variable [Iota]
theorem bd_nat {ds : List Int} (hb : Bd ds) {i : Nat} (h : i < ds.length) : ∃ d : Nat, ds[i] = (d : Int) := by
  have := hb _ (List.getElem_mem h)
  exact ⟨ds[i].toNat, by omega⟩
theorem pick7 {k : Nat} (hk : k < 7) (a : Nat → D) : dIx (.tup [a 0, a 1, a 2, a 3, a 4, a 5, a 6]) (.int (k : Nat)) = .ok (a k) := by
  rcases (by omega : k = 0 ∨ k = 1 ∨ k = 2 ∨ k = 3 ∨ k = 4 ∨ k = 5 ∨ k = 6) with rfl | rfl | rfl | rfl | rfl | rfl | rfl <;> exact dIx_t rfl
theorem law_table {ds : List Int} (hl : ds.length = 10) (hb : Bd ds) : ∃ T : Tb, T.WF ∧ m__law_table [.lst (ds.map D.int)] = .ok T.d := by
  obtain ⟨d0, e0⟩ := bd_nat hb (i := 0) (by omega)
  obtain ⟨d1, e1⟩ := bd_nat hb (i := 1) (by omega)
  obtain ⟨d3, e3⟩ := bd_nat hb (i := 3) (by omega)
  have i0 : dIx (.lst (ds.map D.int)) (.int 0) = .ok (.int (d0 : Nat)) := by rw [← e0]; exact lst_get (ds := ds) (i := 0) (by omega)
  have i1 : dIx (.lst (ds.map D.int)) (.int 1) = .ok (.int (d1 : Nat)) := by rw [← e1]; exact lst_get (ds := ds) (i := 1) (by omega)
  have i3 : dIx (.lst (ds.map D.int)) (.int 3) = .ok (.int (d3 : Nat)) := by rw [← e3]; exact lst_get (ds := ds) (i := 3) (by omega)
  obtain ⟨k, ek⟩ : ∃ k, k = d0 % 7 := ⟨_, rfl⟩
  obtain ⟨t, et⟩ : ∃ t, t = d3 % 2 := ⟨_, rfl⟩
  have hk : k < 7 := by omega
  have ht : t < 2 := by omega
  obtain ⟨w, ew⟩ : ∃ w, w = wOf k d1 := ⟨_, rfl⟩
  obtain ⟨s, es⟩ : ∃ s, s = szOf k w d1 := ⟨_, rfl⟩
  obtain ⟨o, eo⟩ : ∃ o, o = oneN k s := ⟨_, rfl⟩
  have hki := kind_in hk d1
  rw [← ew, ← es, ← eo] at hki
  obtain ⟨hc, ho⟩ := hki
  obtain ⟨s1, s6⟩ := sz6 hc
  -- the orders
  obtain ⟨ρ1, f1, ord, b8, hp, f2⟩ := forRng_inv (tg := tgN 8) (body := b__law_table_0) (n := s)
    (fun j ρ => ∃ (l : List Nat) (b8 : Sl), PermOk j l ∧ ρ = .fz (.lst (ds.map D.int)) :: .fz (.int (k : Nat)) :: .fz (.int (t : Nat)) :: .fz (.int (w : Nat)) :: .fz (.int ((2 + d1 % 5 : Nat) : Int)) :: .fz (.int (s : Nat)) :: .fz (.int (o : Nat)) :: .ow (nums l) :: b8 :: [.un, .un, .un, .un, .un, .un, .un, .un])
    (fun j hj ρ ⟨l, b8, h, e⟩ => by
      subst e
      obtain ⟨ρ', g1, l', g2, g3⟩ := order_step hl (k := j) (by omega) h (a1 := .fz (.int (k : Nat))) (a2 := .fz (.int (t : Nat))) (a3 := .fz (.int (w : Nat))) (a4 := .fz (.int ((2 + d1 % 5 : Nat) : Int))) (a5 := .fz (.int (s : Nat))) (a6 := .fz (.int (o : Nat))) (a8 := b8) (r := [.un, .un, .un, .un, .un, .un, .un, .un])
      exact ⟨ρ', g1, l', _, g2, g3⟩)
    _ ⟨[], .un, ⟨rfl, (fun x h => by cases h), fun x h => by omega⟩, rfl⟩
  subst f2
  -- the rows
  obtain ⟨ρ2, g1, S, Pm, b11, b12, b13, b14, b15, b16, hS, hP, oS, oP, g2⟩ := forRng_inv (tg := tgN 11) (body := b__law_table_2) (n := s)
    (fun i ρ => ∃ (S Pm : List (List Nat)) (b11 b12 b13 b14 b15 b16 : Sl), S.length = i ∧ Pm.length = i ∧ rowsOk s S ∧ rowsOk s Pm ∧ ρ = uEn ds k t w s (.fz (.int ((2 + d1 % 5 : Nat) : Int))) (.fz (.int (o : Nat))) ord b8 S Pm b11 b12 b13 b14 b15 b16)
    (fun i hi ρ ⟨S, Pm, b11, b12, b13, b14, b15, b16, hS, hP, oS, oP, e⟩ => by
      subst e
      obtain ⟨ρ', g1, S', P', c11, c12, c13, c14, c15, c16, q1, q2, q3, q4, q5⟩ := row_step hl hc ht hp s6 hi hS hP oS oP (a4 := .fz (.int ((2 + d1 % 5 : Nat) : Int))) (a6 := .fz (.int (o : Nat))) (a8 := b8) (a11 := b11) (a12 := b12) (a13 := b13) (a14 := b14) (a15 := b15) (a16 := b16)
      exact ⟨ρ', g1, S', P', c11, c12, c13, c14, c15, c16, q1, q2, q3, q4, q5⟩)
    (uEn ds k t w s (.fz (.int ((2 + d1 % 5 : Nat) : Int))) (.fz (.int (o : Nat))) ord b8 [] [] .un .un .un .un .un .un)
    ⟨[], [], .un, .un, .un, .un, .un, .un, rfl, rfl, (fun l h => by cases h), (fun l h => by cases h), rfl⟩
  subst g2
  have l0 : 0 < ord.length := by rw [hp.len]; omega
  have lo : o < ord.length := by rw [hp.len]; omega
  refine ⟨⟨s, S, Pm, ord[0], ord[o]⟩, ⟨s1, s6, ⟨hS, oS⟩, ⟨hP, oP⟩, hp.lt _ (List.getElem_mem l0), hp.lt _ (List.getElem_mem lo)⟩, ?_⟩
  unfold m__law_table
  rw [runD1]
  unfold b__law_table
  simp only [List.replicate]
  refine seq_go (set_of (d := .int (k : Nat)) ?_) ?_
  · simp only [eBin_ap, eCall_ap, eCons_ap, eNil_ap, eVar_z, eC_ap, R.okb, i0, dInt_i]
    rw [dMod_i (by decide), ek]
    rfl
  simp only [List.set_cons_succ, List.set_cons_zero]
  refine seq_go (set_of (d := .int (t : Nat)) ?_) ?_
  · simp only [eBin_ap, eCall_ap, eCons_ap, eNil_ap, eVar_z, eC_ap, R.okb, i3, dInt_i]
    rw [dMod_i (by decide), et]
    rfl
  simp only [List.set_cons_succ, List.set_cons_zero]
  refine seq_go (set_of (d := .int 2) rfl) ?_
  simp only [List.set_cons_succ, List.set_cons_zero]
  refine seq_go (ρ' := .fz (.lst (ds.map D.int)) :: .fz (.int (k : Nat)) :: .fz (.int (t : Nat)) :: .fz (.int (w : Nat)) :: [.un, .un, .un, .un, .un, .un, .un, .un, .un, .un, .un, .un, .un]) ?_ ?_
  · by_cases h5 : k = 5
    · refine if_t ?_ ?_
      · simp only [tst_ap, eBin_ap, eVar_s, eVar_z, eC_ap, R.okb, dEq_i, asB_bl, h5]
        rfl
      · rw [set_of (d := .int (w : Nat))]
        · simp only [List.set_cons_succ, List.set_cons_zero]
        · simp only [eBin_ap, eCall_ap, eCons_ap, eNil_ap, eVar_z, eC_ap, R.okb, i1, dInt_i]
          rw [dMod_i (by decide), R.okb, dAdd_i, ew]
          unfold wOf
          rw [if_pos h5]
          rfl
    · refine if_f ?_ ?_
      · simp only [tst_ap, eBin_ap, eVar_s, eVar_z, eC_ap, R.okb, dEq_i, asB_bl]
        have : (((k : Nat) : Int) == 5) = false := by
          rw [beq_eq_false_iff_ne]; omega
        rw [this]
      · have : w = 2 := by rw [ew]; unfold wOf; rw [if_neg h5]
        rw [this]; rfl
  refine seq_go (set_of (d := .int ((2 + d1 % 5 : Nat) : Int)) ?_) ?_
  · simp only [eBin_ap, eCall_ap, eCons_ap, eNil_ap, eVar_z, eC_ap, R.okb, i1, dInt_i]
    rw [dMod_i (by decide), R.okb, dAdd_i]
    rfl
  simp only [List.set_cons_succ, List.set_cons_zero]
  refine seq_go (set_of (d := .int (s : Nat)) ?_) ?_
  · rw [eBin_ap]
    have et : ∀ ρ : En, eVar 0 ρ = .ok (.lst (ds.map D.int)) → eVar 4 ρ = .ok (.int ((2 + d1 % 5 : Nat) : Int)) → eVar 3 ρ = .ok (.int (w : Nat)) → (eTup (eCons (eBin dAdd (eC (.int 1)) (eBin dMod (eCall dInt (eCons (eBin dIx (eVar 0) (eC (.int 1))) eNil)) (eC (.int 6)))) (eCons (eVar 4) (eCons (eVar 4) (eCons (eC (.int 4)) (eCons (eC (.int 6)) (eCons (eBin dMul (eC (.int 2)) (eVar 3)) (eCons (eC (.int 5)) eNil))))))) ρ) = .ok (.tup [.int (szOf 0 w d1 : Nat), .int (szOf 1 w d1 : Nat), .int (szOf 2 w d1 : Nat), .int (szOf 3 w d1 : Nat), .int (szOf 4 w d1 : Nat), .int (szOf 5 w d1 : Nat), .int (szOf 6 w d1 : Nat)]) := fun ρ h0 h4 h3 => by
      have m6 : dMod (.int ((d1 : Nat) : Int)) (.int 6) = .ok (.int ((d1 : Nat) % 6 : Int)) := dMod_i (by decide)
      have m2 : dMul (.int 2) (.int (w : Nat)) = .ok (.int (2 * (w : Nat))) := dMul_l (by decide)
      simp only [eTup_ap, eCons_ap, eBin_ap, eCall_ap, eNil_ap, eC_ap, R.okb, h0, h4, h3, i1, dInt_i, m6, m2, dAdd_i]
      rfl
    rw [et _ rfl rfl rfl, R.okb]
    simp only [eVar_s, eVar_z, R.okb]
    rw [pick7 hk (fun k => .int (szOf k w d1 : Nat)), es]
  simp only [List.set_cons_succ, List.set_cons_zero]
  refine seq_go (set_of (d := .int (o : Nat)) ?_) ?_
  · rw [eBin_ap]
    have et : ∀ ρ : En, eVar 5 ρ = .ok (.int (s : Nat)) → (eTup (eCons (eBin dSub (eVar 5) (eC (.int 1))) (eCons (eC (.int 1)) (eCons (eC (.int 1)) (eCons (eC (.int 1)) (eCons (eC (.int 4)) (eCons (eBin dSub (eVar 5) (eC (.int 1))) (eCons (eC (.int 2)) eNil))))))) ρ) = .ok (.tup [.int (oneN 0 s : Nat), .int (oneN 1 s : Nat), .int (oneN 2 s : Nat), .int (oneN 3 s : Nat), .int (oneN 4 s : Nat), .int (oneN 5 s : Nat), .int (oneN 6 s : Nat)]) := fun ρ h5 => by
      have hs : ((s : Nat) : Int) - 1 = ((s - 1 : Nat) : Int) := by omega
      simp only [eTup_ap, eCons_ap, eBin_ap, eNil_ap, eC_ap, R.okb, h5, dSub_i, hs]
      rfl
    rw [et _ rfl, R.okb]
    simp only [eVar_s, eVar_z, R.okb]
    rw [pick7 hk (fun k => .int (oneN k s : Nat)), eo]
  simp only [List.set_cons_succ, List.set_cons_zero]
  refine seq_go (setO_of (ds := []) rfl) ?_
  simp only [List.set_cons_succ, List.set_cons_zero]
  refine seq_go (ρ' := _) ((sFor_rng s (by simp only [eCons_ap, eVar_s, eVar_z, eNil_ap, R.okb]) rfl (by omega)).trans f1) ?_
  refine seq_go (setO_of (ds := []) rfl) ?_
  simp only [List.set_cons_succ, List.set_cons_zero]
  refine seq_go (setO_of (ds := []) rfl) ?_
  simp only [List.set_cons_succ, List.set_cons_zero]
  refine seq_go (ρ' := _) ((sFor_rng s (by simp only [eCons_ap, eVar_s, eVar_z, eNil_ap, R.okb]) rfl (by omega)).trans g1) ?_
  refine ret_out ?_
  have q0 := nums_ix l0
  have qo := nums_ix lo
  unfold uEn
  simp only [eTup_ap, eCons_ap, eCall_ap, eNil_ap, eOwn_s, eOwn_z, R.okb, dTupL_ap]
  have x0 : ∀ ρ : En, eOwn 7 ρ = .ok (nums ord) → eIxO (eOwn 7) (eC (.int 0)) ρ = .ok (.int (ord[0] : Nat)) := fun ρ h => by
    show (eOwn 7 ρ >>= fun ds => eC (.int 0) ρ >>= fun d => dIx (.lst ds) d) = _
    rw [h, R.okb, eC_ap, R.okb]
    exact q0
  have xo : ∀ ρ : En, eOwn 7 ρ = .ok (nums ord) → eVar 6 ρ = .ok (.int (o : Nat)) → eIxO (eOwn 7) (eVar 6) ρ = .ok (.int (ord[o] : Nat)) := fun ρ h h6 => by
    show (eOwn 7 ρ >>= fun ds => eVar 6 ρ >>= fun d => dIx (.lst ds) d) = _
    rw [h, R.okb, h6, R.okb]
    exact qo
  rw [x0 _ rfl, R.okb, xo _ rfl rfl, R.okb]
  rfl
end K17

/-! tables that are bent -/
namespace K17
open PySem PySem.Spec PyProof.Rows L2 DD
variable [Iota]
theorem runDo {n k : Nat} {b : En → R Out} {ds : List D} (h : ds.length = n) : runD n k b ds = b (ds.map Sl.fz ++ List.replicate k .un) >>= outK := by
  rw [runD_of h]
  congr 1
theorem cutD_from (xs : List D) (a : Nat) : DD.cutD xs (some (a : Int)) none = xs.drop a := by
  unfold DD.cutD
  rw [HT.sIx_nat, HT.sIx_none]
  by_cases h : a ≤ xs.length
  · rw [Nat.min_eq_left h]
    exact List.take_of_length_le (by rw [List.length_drop]; omega)
  · rw [Nat.min_eq_right (by omega), List.drop_length, List.drop_of_length_le (by omega)]
    simp
theorem cutD_nn (xs : List D) (a b : Nat) : DD.cutD xs (some (a : Int)) (some (b : Int)) = (xs.drop a).take (b - a) := by
  unfold DD.cutD
  rw [HT.sIx_nat _ _ a, HT.sIx_nat _ _ b]
  by_cases h : a ≤ xs.length
  · rw [Nat.min_eq_left h]
    by_cases h2 : b ≤ xs.length
    · rw [Nat.min_eq_left h2]
    · rw [Nat.min_eq_right (by omega), List.take_of_length_le (by rw [List.length_drop]; omega), List.take_of_length_le (by rw [List.length_drop]; omega)]
  · rw [Nat.min_eq_right (by omega : xs.length ≤ a), List.drop_length, List.drop_of_length_le (by omega : xs.length ≤ a)]
    simp
theorem cutD_to (xs : List D) (b : Nat) : DD.cutD xs none (some (b : Int)) = xs.take b := by
  have e := cutD_nn xs 0 b
  rw [List.drop_zero, Nat.sub_zero] at e
  rw [← e]
  unfold DD.cutD
  rw [HT.sIx_none, HT.sIx_nat _ _ 0, HT.sIx_nat]
  simp
theorem splice {α : Type} {xs : List α} {i : Nat} (h : i < xs.length) (y : α) : xs.take i ++ [y] ++ xs.drop (i + 1) = xs.set i y := by
  rw [List.set_eq_take_append_cons_drop, if_pos h, List.append_assoc]; rfl
theorem matD_len (m : List (List Nat)) : (m.map rowD).length = m.length := List.length_map _
theorem mat_ix {m : List (List Nat)} {i : Nat} (h : i < m.length) : dIx (matD m) (.int ((i : Nat) : Int)) = .ok (rowD m[i]) := dIx_t (by rw [List.getElem?_map, List.getElem?_eq_getElem h]; rfl)
theorem row_ix {l : List Nat} {i : Nat} (h : i < l.length) : dIx (rowD l) (.int ((i : Nat) : Int)) = .ok (.int (l[i] : Nat)) := dIx_t (nums_get (List.getElem?_eq_getElem h))
theorem t0 (T : Tb) : dIx T.d (.int 0) = .ok (matD T.s) := dIx_t (n := 0) rfl
theorem t1 (T : Tb) : dIx T.d (.int 1) = .ok (matD T.p) := dIx_t (n := 1) rfl
theorem t2 (T : Tb) : dIx T.d (.int 2) = .ok (.int (T.z : Nat)) := dIx_t (n := 2) rfl
theorem t3 (T : Tb) : dIx T.d (.int 3) = .ok (.int (T.o : Nat)) := dIx_t (n := 3) rfl
/-- one part of the table: the sums, the products -/
def Tb.part (T : Tb) (w : Nat) : List (List Nat) := if w = 0 then T.s else T.p
def Tb.put (T : Tb) (w : Nat) (m : List (List Nat)) : Tb := if w = 0 then { T with s := m } else { T with p := m }
theorem tw {T : Tb} {w : Nat} (hw : w < 2) : dIx T.d (.int (w : Nat)) = .ok (matD (T.part w)) := by
  rcases (by omega : w = 0 ∨ w = 1) with rfl | rfl
  · exact t0 T
  · exact t1 T
theorem part_ok {T : Tb} (h : T.WF) (w : Nat) : MatOk T.n (T.part w) := by
  unfold Tb.part; split
  · exact h.s
  · exact h.p
def setM (m : List (List Nat)) (i j x : Nat) : List (List Nat) := m.set i ((m.getD i []).set j x)
theorem setM_ok {n : Nat} {m : List (List Nat)} (h : MatOk n m) {i j x : Nat} (hi : i < n) (hj : j < n) (hx : x < n) : MatOk n (setM m i j x) := by
  unfold setM
  have hi' : i < m.length := by rw [h.1]; exact hi
  refine ⟨by rw [List.length_set]; exact h.1, fun l hl => ?_⟩
  rcases List.mem_or_eq_of_mem_set hl with hl | rfl
  · exact h.2 l hl
  · have e : m.getD i [] = m[i] := by rw [List.getD_eq_getElem?_getD, List.getElem?_eq_getElem hi']; rfl
    have := h.2 _ (List.getElem_mem hi')
    rw [e]
    refine ⟨by rw [List.length_set]; exact this.1, fun y hy => ?_⟩
    rcases List.mem_or_eq_of_mem_set hy with hy | rfl
    · exact this.2 y hy
    · exact hx
theorem put_ok {T : Tb} (h : T.WF) (w : Nat) {m : List (List Nat)} (hm : MatOk T.n m) : (T.put w m).WF ∧ (T.put w m).n = T.n := by
  unfold Tb.put; split
  · exact ⟨⟨h.n1, h.n6, hm, h.p, h.z, h.o⟩, rfl⟩
  · exact ⟨⟨h.n1, h.n6, h.s, hm, h.z, h.o⟩, rfl⟩
theorem changed {T : Tb} (h : T.WF) {w i j x : Nat} (hw : w < 2) (hi : i < T.n) (hj : j < T.n) (hx : x < T.n) :
    m__law_changed [T.d, .int (w : Nat), .int (i : Nat), .int (j : Nat), .int (x : Nat)] = .ok (T.put w (setM (T.part w) i j x)).d := by
  have hm := part_ok h w
  have li : i < (T.part w).length := by rw [hm.1]; exact hi
  have hr := hm.2 _ (List.getElem_mem li)
  have lj : j < ((T.part w)[i]).length := by rw [hr.1]; exact hj
  have h6 := h.n6
  have e : (T.part w).getD i [] = (T.part w)[i] := by rw [List.getD_eq_getElem?_getD, List.getElem?_eq_getElem li]; rfl
  have s1 : (nums (T.part w)[i]).take j ++ [D.int (x : Nat)] ++ (nums (T.part w)[i]).drop (j + 1) = nums ((T.part w)[i].set j x) := by
    rw [splice (by rw [nums_len]; exact lj)]
    unfold nums
    rw [List.map_set]
  have s2 : ((T.part w).map rowD).take i ++ [rowD ((T.part w)[i].set j x)] ++ ((T.part w).map rowD).drop (i + 1) = (setM (T.part w) i j x).map rowD := by
    rw [splice (by rw [matD_len]; exact li)]
    unfold setM
    rw [List.map_set, e]
  have j1 : ((j : Nat) : Int) + 1 = ((j + 1 : Nat) : Int) := by omega
  have i1 : ((i : Nat) : Int) + 1 = ((i + 1 : Nat) : Int) := by omega
  have n1 : (nums (T.part w)[i]).length ≤ 6 := by rw [nums_len, hr.1]; exact h6
  have n2 : ((T.part w).map rowD).length ≤ 6 := by rw [matD_len, hm.1]; exact h6
  have a1 : dAdd (.tup ((nums (T.part w)[i]).take j)) (.tup [.int (x : Nat)]) = .ok (.tup ((nums (T.part w)[i]).take j ++ [D.int (x : Nat)])) := dAdd_t (by rw [List.length_take]; simp; omega)
  have a2 : dAdd (.tup ((nums (T.part w)[i]).take j ++ [D.int (x : Nat)])) (.tup ((nums (T.part w)[i]).drop (j + 1))) = .ok (.tup (nums ((T.part w)[i].set j x))) := by
    rw [← s1]; exact dAdd_t (by simp; omega)
  have a3 : dAdd (.tup (((T.part w).map rowD).take i)) (.tup [rowD ((T.part w)[i].set j x)]) = .ok (.tup (((T.part w).map rowD).take i ++ [rowD ((T.part w)[i].set j x)])) := dAdd_t (by rw [List.length_take]; simp; omega)
  have a4 : dAdd (.tup (((T.part w).map rowD).take i ++ [rowD ((T.part w)[i].set j x)])) (.tup (((T.part w).map rowD).drop (i + 1))) = .ok (matD (setM (T.part w) i j x)) := by
    unfold matD; rw [← s2]; exact dAdd_t (by simp at n2 ⊢; omega)
  have k1 : dIx T.d (.int (w : Nat)) = .ok (matD (T.part w)) := tw hw
  have k2 : dIx (matD (T.part w)) (.int (i : Nat)) = .ok (rowD (T.part w)[i]) := mat_ix li
  have c1 : dSl (rowD (T.part w)[i]) none (some ((j : Nat) : Int)) = .ok (.tup ((nums (T.part w)[i]).take j)) := by unfold rowD; rw [dSl_t, cutD_to]
  have c2 : dSl (rowD (T.part w)[i]) (some ((j + 1 : Nat) : Int)) none = .ok (.tup ((nums (T.part w)[i]).drop (j + 1))) := by unfold rowD; rw [dSl_t, cutD_from]
  have c3 : dSl (matD (T.part w)) none (some ((i : Nat) : Int)) = .ok (.tup (((T.part w).map rowD).take i)) := by unfold matD; rw [dSl_t, cutD_to]
  have c4 : dSl (matD (T.part w)) (some ((i + 1 : Nat) : Int)) none = .ok (.tup (((T.part w).map rowD).drop (i + 1))) := by unfold matD; rw [dSl_t, cutD_from]
  have g1 : ∀ a : D, guardR (small [a].length) = R.ok () := fun _ => rfl
  unfold m__law_changed
  rw [runDo (n := 5) rfl]
  unfold b__law_changed
  simp only [List.map_cons, List.map_nil, List.cons_append, List.nil_append, List.replicate]
  refine seq_go (set_of (d := rowD ((T.part w)[i].set j x)) ?_) ?_
  · simp only [eBin_ap, eSl_ap, eVar_s, eVar_z, oNone_ap, oSome_ap, asI_i, eTup_ap, eCons_ap, eNil_ap, eC_ap, R.okb, k1, k2, dAdd_i, j1, c1, c2, g1, a1, a2]
    rfl
  simp only [List.set_cons_succ, List.set_cons_zero]
  refine seq_go (set_of (d := matD (setM (T.part w) i j x)) ?_) ?_
  · simp only [eBin_ap, eSl_ap, eVar_s, eVar_z, oNone_ap, oSome_ap, asI_i, eTup_ap, eCons_ap, eNil_ap, eC_ap, R.okb, k1, dAdd_i, i1, c3, c4, g1, a3, a4]
  simp only [List.set_cons_succ, List.set_cons_zero]
  rcases (by omega : w = 0 ∨ w = 1) with rfl | rfl
  · refine seq_rt (if_t rfl (ret_of ?_))
    simp only [eTup_ap, eCons_ap, eBin_ap, eNil_ap, eVar_s, eVar_z, eC_ap, R.okb, t1, t2, t3]
    rfl
  · refine seq_go (if_f rfl rfl) (ret_out ?_)
    simp only [eTup_ap, eCons_ap, eBin_ap, eNil_ap, eVar_s, eVar_z, eC_ap, R.okb, t0, t2, t3]
    rfl
end K17

/-! the bent table -/
namespace K17
open PySem PySem.Spec PyProof.Rows L2 DD
variable [Iota]
theorem draw_at {ds : List Int} (hb : Bd ds) {i : Nat} (h : i < ds.length) : ∃ d : Nat, dIx (.lst (ds.map D.int)) (.int ((i : Nat) : Int)) = .ok (.int (d : Nat)) := by
  obtain ⟨d, e⟩ := bd_nat hb h
  exact ⟨d, by rw [← e]; exact lst_get h⟩
theorem modN (d : Nat) {n : Nat} (h : 1 ≤ n) : dMod (.int ((d : Nat) : Int)) (.int ((n : Nat) : Int)) = .ok (.int ((d % n : Nat) : Int)) := by rw [dMod_i (by omega)]; rfl
def bEn (T : Tb) (ds : List Int) (k : Nat) (B : Tb) (a5 a6 a7 a8 a9 : Sl) : En := [.fz T.d, .fz (.lst (ds.map D.int)), .fz (.int (T.n : Nat)), .fz (.int (k : Nat)), .fz B.d, a5, a6, a7, a8, a9]
theorem bent_step {T : Tb} (h : T.WF) {ds : List Int} (hl : ds.length = 10) (hb : Bd ds) {k t : Nat} (ht : t < 2) {B : Tb} (hB : B.WF) (hn : B.n = T.n) {a5 a6 a7 a8 a9 : Sl} :
    ∃ ρ', (tgN 5 (.int (t : Nat)) (bEn T ds k B a5 a6 a7 a8 a9) >>= b__law_bent_0) = .ok (.nx ρ') ∧ ∃ (B' : Tb) (b5 b6 b7 b8 b9 : Sl), B'.WF ∧ B'.n = T.n ∧ ρ' = bEn T ds k B' b5 b6 b7 b8 b9 := by
  obtain ⟨d1, e1⟩ := draw_at hb (i := 4 * t + 1) (by omega)
  obtain ⟨d2, e2⟩ := draw_at hb (i := 4 * t + 2) (by omega)
  obtain ⟨d3, e3⟩ := draw_at hb (i := 4 * t + 3) (by omega)
  obtain ⟨d4, e4⟩ := draw_at hb (i := 4 * t + 4) (by omega)
  have m4 : dMul (.int 4) (.int ((t : Nat) : Int)) = .ok (.int (4 * (t : Nat))) := dMul_l (by decide)
  have c1 : (4 : Int) * (t : Nat) + 1 = ((4 * t + 1 : Nat) : Int) := by omega
  have c2 : (4 : Int) * (t : Nat) + 2 = ((4 * t + 2 : Nat) : Int) := by omega
  have c3 : (4 : Int) * (t : Nat) + 3 = ((4 * t + 3 : Nat) : Int) := by omega
  have c4 : (4 : Int) * (t : Nat) + 4 = ((4 * t + 4 : Nat) : Int) := by omega
  have n1 := h.n1
  have w2 : d1 % 2 < 2 := Nat.mod_lt _ (by decide)
  have hi : d2 % T.n < T.n := Nat.mod_lt _ (by omega)
  have hj : d3 % T.n < T.n := Nat.mod_lt _ (by omega)
  have hx : d4 % T.n < T.n := Nat.mod_lt _ (by omega)
  have hiB : d2 % T.n < B.n := by rw [hn]; exact hi
  have hjB : d3 % T.n < B.n := by rw [hn]; exact hj
  have hxB : d4 % T.n < B.n := by rw [hn]; exact hx
  have q1 := changed hB w2 hiB hjB hxB
  obtain ⟨B1, eB⟩ : ∃ B1, B1 = B.put (d1 % 2) (setM (B.part (d1 % 2)) (d2 % T.n) (d3 % T.n) (d4 % T.n)) := ⟨_, rfl⟩
  have p1 := put_ok hB (d1 % 2) (setM_ok (part_ok hB (d1 % 2)) hiB hjB hxB)
  rw [← eB] at q1 p1
  have hn1 : B1.n = T.n := p1.2.trans hn
  have hi1 : d2 % T.n < B1.n := by rw [hn1]; exact hi
  have hj1 : d3 % T.n < B1.n := by rw [hn1]; exact hj
  have hx1 : d4 % T.n < B1.n := by rw [hn1]; exact hx
  have q2 := changed p1.1 w2 hj1 hi1 hx1
  obtain ⟨B2, eB2⟩ : ∃ B2, B2 = B1.put (d1 % 2) (setM (B1.part (d1 % 2)) (d3 % T.n) (d2 % T.n) (d4 % T.n)) := ⟨_, rfl⟩
  have p2 := put_ok p1.1 (d1 % 2) (setM_ok (part_ok p1.1 (d1 % 2)) hj1 hi1 hx1)
  rw [← eB2] at q2 p2
  have hn2 : B2.n = T.n := p2.2.trans hn1
  have mw : dMod (.int ((d1 : Nat) : Int)) (.int 2) = .ok (.int ((d1 % 2 : Nat) : Int)) := modN d1 (n := 2) (by decide)
  have mi := modN d2 n1
  have mj := modN d3 n1
  have mx := modN d4 n1
  unfold bEn
  rw [tgN_ap, R.okb]
  simp only [List.set_cons_succ, List.set_cons_zero]
  unfold b__law_bent_0
  by_cases h5 : (k : Int) < 5
  · refine ⟨_, seq_go' (set_of (d := .int ((d1 % 2 : Nat) : Int)) ?_) (seq_go' (set_of (d := .int ((d2 % T.n : Nat) : Int)) ?_) (seq_go' (set_of (d := .int ((d3 % T.n : Nat) : Int)) ?_) (seq_go' (set_of (d := .int ((d4 % T.n : Nat) : Int)) ?_) (seq_go' (set_of (d := B1.d) ?_) (if_t ?_ (set_of (d := B2.d) ?_)))))),
      B2, .fz (.int (t : Nat)), .fz (.int ((d1 % 2 : Nat) : Int)), .fz (.int ((d2 % T.n : Nat) : Int)), .fz (.int ((d3 % T.n : Nat) : Int)), .fz (.int ((d4 % T.n : Nat) : Int)), p2.1, hn2, rfl⟩
    · simp only [eBin_ap, eCall_ap, eCons_ap, eNil_ap, eVar_s, eVar_z, eC_ap, R.okb, m4, dAdd_i, c1, e1, dInt_i, mw]
    · simp only [List.set_cons_succ, List.set_cons_zero, eBin_ap, eCall_ap, eCons_ap, eNil_ap, eVar_s, eVar_z, eC_ap, R.okb, m4, dAdd_i, c2, e2, dInt_i, mi]
    · simp only [List.set_cons_succ, List.set_cons_zero, eBin_ap, eCall_ap, eCons_ap, eNil_ap, eVar_s, eVar_z, eC_ap, R.okb, m4, dAdd_i, c3, e3, dInt_i, mj]
    · simp only [List.set_cons_succ, List.set_cons_zero, eBin_ap, eCall_ap, eCons_ap, eNil_ap, eVar_s, eVar_z, eC_ap, R.okb, m4, dAdd_i, c4, e4, dInt_i, mx]
    · simp only [List.set_cons_succ, List.set_cons_zero, eCall_ap, eCons_ap, eNil_ap, eVar_s, eVar_z, R.okb]
      exact q1
    · simp only [List.set_cons_succ, List.set_cons_zero, tst_ap, eBin_ap, eVar_s, eVar_z, eC_ap, R.okb, dLt_i, asB_bl, decide_eq_true h5]
    · simp only [List.set_cons_succ, List.set_cons_zero, eCall_ap, eCons_ap, eNil_ap, eVar_s, eVar_z, R.okb]
      exact q2
  · refine ⟨_, seq_go' (set_of (d := .int ((d1 % 2 : Nat) : Int)) ?_) (seq_go' (set_of (d := .int ((d2 % T.n : Nat) : Int)) ?_) (seq_go' (set_of (d := .int ((d3 % T.n : Nat) : Int)) ?_) (seq_go' (set_of (d := .int ((d4 % T.n : Nat) : Int)) ?_) (seq_go' (set_of (d := B1.d) ?_) (if_f ?_ rfl))))),
      B1, .fz (.int (t : Nat)), .fz (.int ((d1 % 2 : Nat) : Int)), .fz (.int ((d2 % T.n : Nat) : Int)), .fz (.int ((d3 % T.n : Nat) : Int)), .fz (.int ((d4 % T.n : Nat) : Int)), p1.1, hn1, rfl⟩
    · simp only [eBin_ap, eCall_ap, eCons_ap, eNil_ap, eVar_s, eVar_z, eC_ap, R.okb, m4, dAdd_i, c1, e1, dInt_i, mw]
    · simp only [List.set_cons_succ, List.set_cons_zero, eBin_ap, eCall_ap, eCons_ap, eNil_ap, eVar_s, eVar_z, eC_ap, R.okb, m4, dAdd_i, c2, e2, dInt_i, mi]
    · simp only [List.set_cons_succ, List.set_cons_zero, eBin_ap, eCall_ap, eCons_ap, eNil_ap, eVar_s, eVar_z, eC_ap, R.okb, m4, dAdd_i, c3, e3, dInt_i, mj]
    · simp only [List.set_cons_succ, List.set_cons_zero, eBin_ap, eCall_ap, eCons_ap, eNil_ap, eVar_s, eVar_z, eC_ap, R.okb, m4, dAdd_i, c4, e4, dInt_i, mx]
    · simp only [List.set_cons_succ, List.set_cons_zero, eCall_ap, eCons_ap, eNil_ap, eVar_s, eVar_z, R.okb]
      exact q1
    · simp only [List.set_cons_succ, List.set_cons_zero, tst_ap, eBin_ap, eVar_s, eVar_z, eC_ap, R.okb, dLt_i, asB_bl, decide_eq_false h5]
theorem len_t0 {T : Tb} (h : T.WF) : dLen [matD T.s] = .ok (.int (T.n : Nat)) := by
  unfold matD
  rw [dLen_t, matD_len, h.s.1]
theorem law_bent {T : Tb} (h : T.WF) {ds : List Int} (hl : ds.length = 10) (hb : Bd ds) : ∃ B : Tb, B.WF ∧ m__law_bent [T.d, .lst (ds.map D.int)] = .ok B.d := by
  obtain ⟨d0, e0⟩ := draw_at hb (i := 0) (by omega)
  obtain ⟨d1, e1⟩ := draw_at hb (i := 1) (by omega)
  have i0 : dIx (.lst (ds.map D.int)) (.int 0) = .ok (.int (d0 : Nat)) := e0
  have i1 : dIx (.lst (ds.map D.int)) (.int 1) = .ok (.int (d1 : Nat)) := e1
  have n1 := h.n1
  have mk : dMod (.int ((d0 : Nat) : Int)) (.int 8) = .ok (.int ((d0 % 8 : Nat) : Int)) := modN d0 (n := 8) (by decide)
  have mx := modN d1 n1
  have hx : d1 % T.n < T.n := Nat.mod_lt _ (by omega)
  have df : dFdiv (.int ((d0 : Nat) : Int)) (.int 8) = .ok (.int ((d0 / 8 : Nat) : Int)) := by rw [dFdiv_i (by decide) (by decide)]; rfl
  have m2 : dMod (.int ((d0 / 8 : Nat) : Int)) (.int 2) = .ok (.int ((d0 / 8 % 2 : Nat) : Int)) := modN (d0 / 8) (n := 2) (by decide)
  have ln := len_t0 h
  unfold m__law_bent
  rw [runD2]
  unfold b__law_bent
  simp only [List.replicate]
  by_cases h0 : d0 % 8 = 0
  · refine ⟨{ T with z := d1 % T.n }, ⟨h.n1, h.n6, h.s, h.p, hx, h.o⟩, ?_⟩
    refine seq_go (set_of (d := .int (T.n : Nat)) ?_) ?_
    · simp only [eBin_ap, eCall_ap, eCons_ap, eNil_ap, eVar_z, eC_ap, R.okb, t0, ln]
    simp only [List.set_cons_succ, List.set_cons_zero]
    refine seq_go (set_of (d := .int ((d0 % 8 : Nat) : Int)) ?_) ?_
    · simp only [eBin_ap, eCall_ap, eCons_ap, eNil_ap, eVar_s, eVar_z, eC_ap, R.okb, i0, dInt_i, mk]
    simp only [List.set_cons_succ, List.set_cons_zero]
    refine seq_rt (if_t (by rw [h0]; rfl) (ret_of ?_))
    simp only [eTup_ap, eBin_ap, eCall_ap, eCons_ap, eNil_ap, eVar_s, eVar_z, eC_ap, R.okb, t0, t1, t3, i1, dInt_i, mx]
    rfl
  by_cases h1 : d0 % 8 = 1
  · refine ⟨{ T with o := d1 % T.n }, ⟨h.n1, h.n6, h.s, h.p, h.z, hx⟩, ?_⟩
    refine seq_go (set_of (d := .int (T.n : Nat)) ?_) ?_
    · simp only [eBin_ap, eCall_ap, eCons_ap, eNil_ap, eVar_z, eC_ap, R.okb, t0, ln]
    simp only [List.set_cons_succ, List.set_cons_zero]
    refine seq_go (set_of (d := .int ((d0 % 8 : Nat) : Int)) ?_) ?_
    · simp only [eBin_ap, eCall_ap, eCons_ap, eNil_ap, eVar_s, eVar_z, eC_ap, R.okb, i0, dInt_i, mk]
    simp only [List.set_cons_succ, List.set_cons_zero]
    refine seq_go (if_f (by rw [h1]; rfl) rfl) ?_
    refine seq_rt (if_t (by rw [h1]; rfl) (ret_of ?_))
    simp only [eTup_ap, eBin_ap, eCall_ap, eCons_ap, eNil_ap, eVar_s, eVar_z, eC_ap, R.okb, t0, t1, t2, i1, dInt_i, mx]
    rfl
  have ne0 : (((d0 % 8 : Nat) : Int) == 0) = false := by rw [beq_eq_false_iff_ne]; omega
  have ne1 : (((d0 % 8 : Nat) : Int) == 1) = false := by rw [beq_eq_false_iff_ne]; omega
  obtain ⟨ρ1, f1, B, b5, b6, b7, b8, b9, hB, hn, f2⟩ := forRng_inv (tg := tgN 5) (body := b__law_bent_0) (n := 1 + d0 / 8 % 2)
    (fun t ρ => ∃ (B : Tb) (b5 b6 b7 b8 b9 : Sl), B.WF ∧ B.n = T.n ∧ ρ = bEn T ds (d0 % 8) B b5 b6 b7 b8 b9)
    (fun t ht ρ ⟨B, b5, b6, b7, b8, b9, hB, hn, e⟩ => by
      subst e
      exact bent_step h hl hb (by omega) hB hn)
    _ ⟨T, .un, .un, .un, .un, .un, h, rfl, rfl⟩
  subst f2
  refine ⟨B, hB, ?_⟩
  refine seq_go (set_of (d := .int (T.n : Nat)) ?_) ?_
  · simp only [eBin_ap, eCall_ap, eCons_ap, eNil_ap, eVar_z, eC_ap, R.okb, t0, ln]
  simp only [List.set_cons_succ, List.set_cons_zero]
  refine seq_go (set_of (d := .int ((d0 % 8 : Nat) : Int)) ?_) ?_
  · simp only [eBin_ap, eCall_ap, eCons_ap, eNil_ap, eVar_s, eVar_z, eC_ap, R.okb, i0, dInt_i, mk]
  simp only [List.set_cons_succ, List.set_cons_zero]
  refine seq_go (if_f (by simp only [tst_ap, eBin_ap, eVar_s, eVar_z, eC_ap, R.okb, dEq_i, asB_bl, ne0]) rfl) ?_
  refine seq_go (if_f (by simp only [tst_ap, eBin_ap, eVar_s, eVar_z, eC_ap, R.okb, dEq_i, asB_bl, ne1]) rfl) ?_
  refine seq_go (set_of (d := T.d) rfl) ?_
  simp only [List.set_cons_succ, List.set_cons_zero]
  refine seq_go (ρ' := _) ((sFor_rng (1 + d0 / 8 % 2) (i := ((1 + d0 / 8 % 2 : Nat) : Int)) ?_ rfl (by omega)).trans f1) (ret_out rfl)
  simp only [eBin_ap, eCall_ap, eCons_ap, eNil_ap, eVar_s, eVar_z, eC_ap, R.okb, i0, df, dInt_i, m2, dAdd_i]
  rfl
end K17

/-! each rule, as the law and as the program ask it -/
namespace K17
open PySem PySem.Spec PyProof.Rows L2 DD
def Tb.sum (T : Tb) (x y : Nat) : Nat := (T.s.getD x []).getD y 0
def Tb.pro (T : Tb) (x y : Nat) : Nat := (T.p.getD x []).getD y 0
def srow (m : List (List Nat)) (x : Nat) : D := rowD (m.getD x [])
theorem mat_get {n : Nat} {m : List (List Nat)} (h : MatOk n m) {x : Nat} (hx : x < n) : dIx (matD m) (.int ((x : Nat) : Int)) = .ok (srow m x) := by
  have hl : x < m.length := by rw [h.1]; exact hx
  rw [@mat_ix ⟨[]⟩ m x hl]
  unfold srow
  rw [List.getD_eq_getElem?_getD, List.getElem?_eq_getElem hl]; rfl
theorem row_get {n : Nat} {m : List (List Nat)} (h : MatOk n m) {x y : Nat} (hx : x < n) (hy : y < n) : dIx (srow m x) (.int ((y : Nat) : Int)) = .ok (.int ((m.getD x []).getD y 0 : Nat)) ∧ (m.getD x []).getD y 0 < n := by
  have hl : x < m.length := by rw [h.1]; exact hx
  have hr := h.2 _ (List.getElem_mem hl)
  have e : m.getD x [] = m[x] := by rw [List.getD_eq_getElem?_getD, List.getElem?_eq_getElem hl]; rfl
  have hy' : y < m[x].length := by rw [hr.1]; exact hy
  have e2 : m[x].getD y 0 = m[x][y] := by rw [List.getD_eq_getElem?_getD, List.getElem?_eq_getElem hy']; rfl
  unfold srow
  rw [e, e2]
  exact ⟨@row_ix ⟨[]⟩ m[x] y hy', hr.2 _ (List.getElem_mem hy')⟩
section
variable {T : Tb} {x y : Nat}
theorem s1 (h : T.WF) (hx : x < T.n) : dIx (matD T.s) (.int ((x : Nat) : Int)) = .ok (srow T.s x) := mat_get h.s hx
theorem p1 (h : T.WF) (hx : x < T.n) : dIx (matD T.p) (.int ((x : Nat) : Int)) = .ok (srow T.p x) := mat_get h.p hx
theorem s2 (h : T.WF) (hx : x < T.n) (hy : y < T.n) : dIx (srow T.s x) (.int ((y : Nat) : Int)) = .ok (.int (T.sum x y : Nat)) := (row_get h.s hx hy).1
theorem p2 (h : T.WF) (hx : x < T.n) (hy : y < T.n) : dIx (srow T.p x) (.int ((y : Nat) : Int)) = .ok (.int (T.pro x y : Nat)) := (row_get h.p hx hy).1
theorem sL (h : T.WF) (hx : x < T.n) (hy : y < T.n) : T.sum x y < T.n := (row_get h.s hx hy).2
theorem pL (h : T.WF) (hx : x < T.n) (hy : y < T.n) : T.pro x y < T.n := (row_get h.p hx hy).2
end
def eqB (a b : Nat) : Bool := ((a : Nat) : Int) == ((b : Nat) : Int)
/-- the rule holds at these things -/
def okB (T : Tb) (r : Nat) (x y z : Nat) : Bool := match r with
  | 0 => eqB (T.sum T.z x) x
  | 1 => eqB (T.sum x x) x
  | 2 => eqB (T.sum x y) (T.sum y x)
  | 3 => eqB (T.sum (T.sum x y) z) (T.sum x (T.sum y z))
  | 4 => eqB (T.pro T.o x) x && eqB (T.pro x T.o) x
  | 5 => eqB (T.pro T.z x) T.z && eqB (T.pro x T.z) T.z
  | 6 => eqB (T.pro (T.pro x y) z) (T.pro x (T.pro y z))
  | 7 => eqB (T.pro x (T.sum y z)) (T.sum (T.pro x y) (T.pro x z))
  | _ => eqB (T.pro (T.sum x y) z) (T.sum (T.pro x z) (T.pro y z))
theorem or_ok (b c : Bool) : (if b = true then R.ok (D.bl true) else R.ok (D.bl c)) = R.ok (D.bl (b || c)) := by cases b <;> rfl
theorem and_ok (b c : Bool) : (if b = true then R.ok (D.bl c) else R.ok (D.bl false)) = R.ok (D.bl (b && c)) := by cases b <;> rfl
theorem nand (b c : Bool) : (!b || !c) = !(b && c) := by cases b <;> cases c <;> rfl
section
variable [Iota]
theorem fails0 {T : Tb} (h : T.WF) {x : Nat} (hx : x < T.n) : m__law_fails [T.d, .str "zero", .tup [.int (x : Nat)]] = .ok (.bl (!okB T 0 x x x)) := by
  have hz0 := h.z
  have ho0 := h.o
  have e1 : dIx (.tup [.int (x : Nat)]) (.int 0) = .ok (.int (x : Nat)) := rfl
  have e2 : dIx (.tup [.int (x : Nat)]) (.int (1 / 2)) = .ok (.int (x : Nat)) := rfl
  have e3 : dIx (.tup [.int (x : Nat)]) (.int (-1)) = .ok (.int (x : Nat)) := rfl
  have e4 : dLen [.tup [.int (x : Nat)]] = .ok (.int 1) := rfl
  have e5 : dFdiv (.int 1) (.int 2) = .ok (.int (1 / 2)) := rfl
  unfold m__law_fails
  rw [runDo (n := 3) rfl]
  unfold b__law_fails
  simp only [List.map_cons, List.map_nil, List.cons_append, List.nil_append, List.replicate]
  refine seq_go (set_of (d := matD T.s) (by simp only [eBin_ap, eVar_s, eVar_z, eC_ap, R.okb, t0])) ?_
  simp only [List.set_cons_succ, List.set_cons_zero]
  refine seq_go (set_of (d := matD T.p) (by simp only [eBin_ap, eVar_s, eVar_z, eC_ap, R.okb, t1])) ?_
  simp only [List.set_cons_succ, List.set_cons_zero]
  refine seq_go (set_of (d := .int (T.z : Nat)) (by simp only [eBin_ap, eVar_s, eVar_z, eC_ap, R.okb, t2])) ?_
  simp only [List.set_cons_succ, List.set_cons_zero]
  refine seq_go (set_of (d := .int (T.o : Nat)) (by simp only [eBin_ap, eVar_s, eVar_z, eC_ap, R.okb, t3])) ?_
  simp only [List.set_cons_succ, List.set_cons_zero]
  refine seq_go (set_of (d := .int (x : Nat)) (by simp only [eBin_ap, eVar_s, eVar_z, eC_ap, R.okb, e1])) ?_
  simp only [List.set_cons_succ, List.set_cons_zero]
  refine seq_go (set_of (d := .int (x : Nat)) (by simp only [eBin_ap, eVar_s, eVar_z, eC_ap, R.okb, eCall_ap, eCons_ap, eNil_ap, e4, e5, e2])) ?_
  simp only [List.set_cons_succ, List.set_cons_zero]
  refine seq_go (set_of (d := .int (x : Nat)) (by simp only [eBin_ap, eVar_s, eVar_z, eC_ap, R.okb, dNeg_i, e3])) ?_
  simp only [List.set_cons_succ, List.set_cons_zero]
  refine seq_rt (if_t (by simp only [tst_ap, eBin_ap, eVar_s, eVar_z, eC_ap, R.okb, dEq_s, asB_bl, beq_self_eq_true]) (ret_of ?_))
  · simp only [eBin_ap, eVar_s, eVar_z, eC_ap, R.okb, vOr_ap, asB_bl, s1 h, p1 h, s2 h, p2 h, sL h, pL h, hx, hz0, ho0, dNe_i, or_ok, nand]
    rfl
theorem fails1 {T : Tb} (h : T.WF) {x : Nat} (hx : x < T.n) : m__law_fails [T.d, .str "same", .tup [.int (x : Nat)]] = .ok (.bl (!okB T 1 x x x)) := by
  have hz0 := h.z
  have ho0 := h.o
  have e1 : dIx (.tup [.int (x : Nat)]) (.int 0) = .ok (.int (x : Nat)) := rfl
  have e2 : dIx (.tup [.int (x : Nat)]) (.int (1 / 2)) = .ok (.int (x : Nat)) := rfl
  have e3 : dIx (.tup [.int (x : Nat)]) (.int (-1)) = .ok (.int (x : Nat)) := rfl
  have e4 : dLen [.tup [.int (x : Nat)]] = .ok (.int 1) := rfl
  have e5 : dFdiv (.int 1) (.int 2) = .ok (.int (1 / 2)) := rfl
  unfold m__law_fails
  rw [runDo (n := 3) rfl]
  unfold b__law_fails
  simp only [List.map_cons, List.map_nil, List.cons_append, List.nil_append, List.replicate]
  refine seq_go (set_of (d := matD T.s) (by simp only [eBin_ap, eVar_s, eVar_z, eC_ap, R.okb, t0])) ?_
  simp only [List.set_cons_succ, List.set_cons_zero]
  refine seq_go (set_of (d := matD T.p) (by simp only [eBin_ap, eVar_s, eVar_z, eC_ap, R.okb, t1])) ?_
  simp only [List.set_cons_succ, List.set_cons_zero]
  refine seq_go (set_of (d := .int (T.z : Nat)) (by simp only [eBin_ap, eVar_s, eVar_z, eC_ap, R.okb, t2])) ?_
  simp only [List.set_cons_succ, List.set_cons_zero]
  refine seq_go (set_of (d := .int (T.o : Nat)) (by simp only [eBin_ap, eVar_s, eVar_z, eC_ap, R.okb, t3])) ?_
  simp only [List.set_cons_succ, List.set_cons_zero]
  refine seq_go (set_of (d := .int (x : Nat)) (by simp only [eBin_ap, eVar_s, eVar_z, eC_ap, R.okb, e1])) ?_
  simp only [List.set_cons_succ, List.set_cons_zero]
  refine seq_go (set_of (d := .int (x : Nat)) (by simp only [eBin_ap, eVar_s, eVar_z, eC_ap, R.okb, eCall_ap, eCons_ap, eNil_ap, e4, e5, e2])) ?_
  simp only [List.set_cons_succ, List.set_cons_zero]
  refine seq_go (set_of (d := .int (x : Nat)) (by simp only [eBin_ap, eVar_s, eVar_z, eC_ap, R.okb, dNeg_i, e3])) ?_
  simp only [List.set_cons_succ, List.set_cons_zero]
  refine seq_go (if_f (by simp only [tst_ap, eBin_ap, eVar_s, eVar_z, eC_ap, R.okb, dEq_s, asB_bl, show (("same" : Str) == "zero") = false by decide]) rfl) ?_
  refine seq_rt (if_t (by simp only [tst_ap, eBin_ap, eVar_s, eVar_z, eC_ap, R.okb, dEq_s, asB_bl, beq_self_eq_true]) (ret_of ?_))
  · simp only [eBin_ap, eVar_s, eVar_z, eC_ap, R.okb, vOr_ap, asB_bl, s1 h, p1 h, s2 h, p2 h, sL h, pL h, hx, hz0, ho0, dNe_i, or_ok, nand]
    rfl
theorem fails2 {T : Tb} (h : T.WF) {x y : Nat} (hx : x < T.n) (hy : y < T.n) : m__law_fails [T.d, .str "order", .tup [.int (x : Nat), .int (y : Nat)]] = .ok (.bl (!okB T 2 x y y)) := by
  have hz0 := h.z
  have ho0 := h.o
  have e1 : dIx (.tup [.int (x : Nat), .int (y : Nat)]) (.int 0) = .ok (.int (x : Nat)) := rfl
  have e2 : dIx (.tup [.int (x : Nat), .int (y : Nat)]) (.int (2 / 2)) = .ok (.int (y : Nat)) := rfl
  have e3 : dIx (.tup [.int (x : Nat), .int (y : Nat)]) (.int (-1)) = .ok (.int (y : Nat)) := rfl
  have e4 : dLen [.tup [.int (x : Nat), .int (y : Nat)]] = .ok (.int 2) := rfl
  have e5 : dFdiv (.int 2) (.int 2) = .ok (.int (2 / 2)) := rfl
  unfold m__law_fails
  rw [runDo (n := 3) rfl]
  unfold b__law_fails
  simp only [List.map_cons, List.map_nil, List.cons_append, List.nil_append, List.replicate]
  refine seq_go (set_of (d := matD T.s) (by simp only [eBin_ap, eVar_s, eVar_z, eC_ap, R.okb, t0])) ?_
  simp only [List.set_cons_succ, List.set_cons_zero]
  refine seq_go (set_of (d := matD T.p) (by simp only [eBin_ap, eVar_s, eVar_z, eC_ap, R.okb, t1])) ?_
  simp only [List.set_cons_succ, List.set_cons_zero]
  refine seq_go (set_of (d := .int (T.z : Nat)) (by simp only [eBin_ap, eVar_s, eVar_z, eC_ap, R.okb, t2])) ?_
  simp only [List.set_cons_succ, List.set_cons_zero]
  refine seq_go (set_of (d := .int (T.o : Nat)) (by simp only [eBin_ap, eVar_s, eVar_z, eC_ap, R.okb, t3])) ?_
  simp only [List.set_cons_succ, List.set_cons_zero]
  refine seq_go (set_of (d := .int (x : Nat)) (by simp only [eBin_ap, eVar_s, eVar_z, eC_ap, R.okb, e1])) ?_
  simp only [List.set_cons_succ, List.set_cons_zero]
  refine seq_go (set_of (d := .int (y : Nat)) (by simp only [eBin_ap, eVar_s, eVar_z, eC_ap, R.okb, eCall_ap, eCons_ap, eNil_ap, e4, e5, e2])) ?_
  simp only [List.set_cons_succ, List.set_cons_zero]
  refine seq_go (set_of (d := .int (y : Nat)) (by simp only [eBin_ap, eVar_s, eVar_z, eC_ap, R.okb, dNeg_i, e3])) ?_
  simp only [List.set_cons_succ, List.set_cons_zero]
  refine seq_go (if_f (by simp only [tst_ap, eBin_ap, eVar_s, eVar_z, eC_ap, R.okb, dEq_s, asB_bl, show (("order" : Str) == "zero") = false by decide]) rfl) ?_
  refine seq_go (if_f (by simp only [tst_ap, eBin_ap, eVar_s, eVar_z, eC_ap, R.okb, dEq_s, asB_bl, show (("order" : Str) == "same") = false by decide]) rfl) ?_
  refine seq_rt (if_t (by simp only [tst_ap, eBin_ap, eVar_s, eVar_z, eC_ap, R.okb, dEq_s, asB_bl, beq_self_eq_true]) (ret_of ?_))
  · simp only [eBin_ap, eVar_s, eVar_z, eC_ap, R.okb, vOr_ap, asB_bl, s1 h, p1 h, s2 h, p2 h, sL h, pL h, hx, hy, hz0, ho0, dNe_i, or_ok, nand]
    rfl
theorem fails3 {T : Tb} (h : T.WF) {x y z : Nat} (hx : x < T.n) (hy : y < T.n) (hz : z < T.n) : m__law_fails [T.d, .str "group", .tup [.int (x : Nat), .int (y : Nat), .int (z : Nat)]] = .ok (.bl (!okB T 3 x y z)) := by
  have hz0 := h.z
  have ho0 := h.o
  have e1 : dIx (.tup [.int (x : Nat), .int (y : Nat), .int (z : Nat)]) (.int 0) = .ok (.int (x : Nat)) := rfl
  have e2 : dIx (.tup [.int (x : Nat), .int (y : Nat), .int (z : Nat)]) (.int (3 / 2)) = .ok (.int (y : Nat)) := rfl
  have e3 : dIx (.tup [.int (x : Nat), .int (y : Nat), .int (z : Nat)]) (.int (-1)) = .ok (.int (z : Nat)) := rfl
  have e4 : dLen [.tup [.int (x : Nat), .int (y : Nat), .int (z : Nat)]] = .ok (.int 3) := rfl
  have e5 : dFdiv (.int 3) (.int 2) = .ok (.int (3 / 2)) := rfl
  unfold m__law_fails
  rw [runDo (n := 3) rfl]
  unfold b__law_fails
  simp only [List.map_cons, List.map_nil, List.cons_append, List.nil_append, List.replicate]
  refine seq_go (set_of (d := matD T.s) (by simp only [eBin_ap, eVar_s, eVar_z, eC_ap, R.okb, t0])) ?_
  simp only [List.set_cons_succ, List.set_cons_zero]
  refine seq_go (set_of (d := matD T.p) (by simp only [eBin_ap, eVar_s, eVar_z, eC_ap, R.okb, t1])) ?_
  simp only [List.set_cons_succ, List.set_cons_zero]
  refine seq_go (set_of (d := .int (T.z : Nat)) (by simp only [eBin_ap, eVar_s, eVar_z, eC_ap, R.okb, t2])) ?_
  simp only [List.set_cons_succ, List.set_cons_zero]
  refine seq_go (set_of (d := .int (T.o : Nat)) (by simp only [eBin_ap, eVar_s, eVar_z, eC_ap, R.okb, t3])) ?_
  simp only [List.set_cons_succ, List.set_cons_zero]
  refine seq_go (set_of (d := .int (x : Nat)) (by simp only [eBin_ap, eVar_s, eVar_z, eC_ap, R.okb, e1])) ?_
  simp only [List.set_cons_succ, List.set_cons_zero]
  refine seq_go (set_of (d := .int (y : Nat)) (by simp only [eBin_ap, eVar_s, eVar_z, eC_ap, R.okb, eCall_ap, eCons_ap, eNil_ap, e4, e5, e2])) ?_
  simp only [List.set_cons_succ, List.set_cons_zero]
  refine seq_go (set_of (d := .int (z : Nat)) (by simp only [eBin_ap, eVar_s, eVar_z, eC_ap, R.okb, dNeg_i, e3])) ?_
  simp only [List.set_cons_succ, List.set_cons_zero]
  refine seq_go (if_f (by simp only [tst_ap, eBin_ap, eVar_s, eVar_z, eC_ap, R.okb, dEq_s, asB_bl, show (("group" : Str) == "zero") = false by decide]) rfl) ?_
  refine seq_go (if_f (by simp only [tst_ap, eBin_ap, eVar_s, eVar_z, eC_ap, R.okb, dEq_s, asB_bl, show (("group" : Str) == "same") = false by decide]) rfl) ?_
  refine seq_go (if_f (by simp only [tst_ap, eBin_ap, eVar_s, eVar_z, eC_ap, R.okb, dEq_s, asB_bl, show (("group" : Str) == "order") = false by decide]) rfl) ?_
  refine seq_rt (if_t (by simp only [tst_ap, eBin_ap, eVar_s, eVar_z, eC_ap, R.okb, dEq_s, asB_bl, beq_self_eq_true]) (ret_of ?_))
  · simp only [eBin_ap, eVar_s, eVar_z, eC_ap, R.okb, vOr_ap, asB_bl, s1 h, p1 h, s2 h, p2 h, sL h, pL h, hx, hy, hz, hz0, ho0, dNe_i, or_ok, nand]
    rfl
theorem fails4 {T : Tb} (h : T.WF) {x : Nat} (hx : x < T.n) : m__law_fails [T.d, .str "one", .tup [.int (x : Nat)]] = .ok (.bl (!okB T 4 x x x)) := by
  have hz0 := h.z
  have ho0 := h.o
  have e1 : dIx (.tup [.int (x : Nat)]) (.int 0) = .ok (.int (x : Nat)) := rfl
  have e2 : dIx (.tup [.int (x : Nat)]) (.int (1 / 2)) = .ok (.int (x : Nat)) := rfl
  have e3 : dIx (.tup [.int (x : Nat)]) (.int (-1)) = .ok (.int (x : Nat)) := rfl
  have e4 : dLen [.tup [.int (x : Nat)]] = .ok (.int 1) := rfl
  have e5 : dFdiv (.int 1) (.int 2) = .ok (.int (1 / 2)) := rfl
  unfold m__law_fails
  rw [runDo (n := 3) rfl]
  unfold b__law_fails
  simp only [List.map_cons, List.map_nil, List.cons_append, List.nil_append, List.replicate]
  refine seq_go (set_of (d := matD T.s) (by simp only [eBin_ap, eVar_s, eVar_z, eC_ap, R.okb, t0])) ?_
  simp only [List.set_cons_succ, List.set_cons_zero]
  refine seq_go (set_of (d := matD T.p) (by simp only [eBin_ap, eVar_s, eVar_z, eC_ap, R.okb, t1])) ?_
  simp only [List.set_cons_succ, List.set_cons_zero]
  refine seq_go (set_of (d := .int (T.z : Nat)) (by simp only [eBin_ap, eVar_s, eVar_z, eC_ap, R.okb, t2])) ?_
  simp only [List.set_cons_succ, List.set_cons_zero]
  refine seq_go (set_of (d := .int (T.o : Nat)) (by simp only [eBin_ap, eVar_s, eVar_z, eC_ap, R.okb, t3])) ?_
  simp only [List.set_cons_succ, List.set_cons_zero]
  refine seq_go (set_of (d := .int (x : Nat)) (by simp only [eBin_ap, eVar_s, eVar_z, eC_ap, R.okb, e1])) ?_
  simp only [List.set_cons_succ, List.set_cons_zero]
  refine seq_go (set_of (d := .int (x : Nat)) (by simp only [eBin_ap, eVar_s, eVar_z, eC_ap, R.okb, eCall_ap, eCons_ap, eNil_ap, e4, e5, e2])) ?_
  simp only [List.set_cons_succ, List.set_cons_zero]
  refine seq_go (set_of (d := .int (x : Nat)) (by simp only [eBin_ap, eVar_s, eVar_z, eC_ap, R.okb, dNeg_i, e3])) ?_
  simp only [List.set_cons_succ, List.set_cons_zero]
  refine seq_go (if_f (by simp only [tst_ap, eBin_ap, eVar_s, eVar_z, eC_ap, R.okb, dEq_s, asB_bl, show (("one" : Str) == "zero") = false by decide]) rfl) ?_
  refine seq_go (if_f (by simp only [tst_ap, eBin_ap, eVar_s, eVar_z, eC_ap, R.okb, dEq_s, asB_bl, show (("one" : Str) == "same") = false by decide]) rfl) ?_
  refine seq_go (if_f (by simp only [tst_ap, eBin_ap, eVar_s, eVar_z, eC_ap, R.okb, dEq_s, asB_bl, show (("one" : Str) == "order") = false by decide]) rfl) ?_
  refine seq_go (if_f (by simp only [tst_ap, eBin_ap, eVar_s, eVar_z, eC_ap, R.okb, dEq_s, asB_bl, show (("one" : Str) == "group") = false by decide]) rfl) ?_
  refine seq_rt (if_t (by simp only [tst_ap, eBin_ap, eVar_s, eVar_z, eC_ap, R.okb, dEq_s, asB_bl, beq_self_eq_true]) (ret_of ?_))
  · simp only [eBin_ap, eVar_s, eVar_z, eC_ap, R.okb, vOr_ap, asB_bl, s1 h, p1 h, s2 h, p2 h, sL h, pL h, hx, hz0, ho0, dNe_i, or_ok, nand]
    rfl
theorem fails5 {T : Tb} (h : T.WF) {x : Nat} (hx : x < T.n) : m__law_fails [T.d, .str "none", .tup [.int (x : Nat)]] = .ok (.bl (!okB T 5 x x x)) := by
  have hz0 := h.z
  have ho0 := h.o
  have e1 : dIx (.tup [.int (x : Nat)]) (.int 0) = .ok (.int (x : Nat)) := rfl
  have e2 : dIx (.tup [.int (x : Nat)]) (.int (1 / 2)) = .ok (.int (x : Nat)) := rfl
  have e3 : dIx (.tup [.int (x : Nat)]) (.int (-1)) = .ok (.int (x : Nat)) := rfl
  have e4 : dLen [.tup [.int (x : Nat)]] = .ok (.int 1) := rfl
  have e5 : dFdiv (.int 1) (.int 2) = .ok (.int (1 / 2)) := rfl
  unfold m__law_fails
  rw [runDo (n := 3) rfl]
  unfold b__law_fails
  simp only [List.map_cons, List.map_nil, List.cons_append, List.nil_append, List.replicate]
  refine seq_go (set_of (d := matD T.s) (by simp only [eBin_ap, eVar_s, eVar_z, eC_ap, R.okb, t0])) ?_
  simp only [List.set_cons_succ, List.set_cons_zero]
  refine seq_go (set_of (d := matD T.p) (by simp only [eBin_ap, eVar_s, eVar_z, eC_ap, R.okb, t1])) ?_
  simp only [List.set_cons_succ, List.set_cons_zero]
  refine seq_go (set_of (d := .int (T.z : Nat)) (by simp only [eBin_ap, eVar_s, eVar_z, eC_ap, R.okb, t2])) ?_
  simp only [List.set_cons_succ, List.set_cons_zero]
  refine seq_go (set_of (d := .int (T.o : Nat)) (by simp only [eBin_ap, eVar_s, eVar_z, eC_ap, R.okb, t3])) ?_
  simp only [List.set_cons_succ, List.set_cons_zero]
  refine seq_go (set_of (d := .int (x : Nat)) (by simp only [eBin_ap, eVar_s, eVar_z, eC_ap, R.okb, e1])) ?_
  simp only [List.set_cons_succ, List.set_cons_zero]
  refine seq_go (set_of (d := .int (x : Nat)) (by simp only [eBin_ap, eVar_s, eVar_z, eC_ap, R.okb, eCall_ap, eCons_ap, eNil_ap, e4, e5, e2])) ?_
  simp only [List.set_cons_succ, List.set_cons_zero]
  refine seq_go (set_of (d := .int (x : Nat)) (by simp only [eBin_ap, eVar_s, eVar_z, eC_ap, R.okb, dNeg_i, e3])) ?_
  simp only [List.set_cons_succ, List.set_cons_zero]
  refine seq_go (if_f (by simp only [tst_ap, eBin_ap, eVar_s, eVar_z, eC_ap, R.okb, dEq_s, asB_bl, show (("none" : Str) == "zero") = false by decide]) rfl) ?_
  refine seq_go (if_f (by simp only [tst_ap, eBin_ap, eVar_s, eVar_z, eC_ap, R.okb, dEq_s, asB_bl, show (("none" : Str) == "same") = false by decide]) rfl) ?_
  refine seq_go (if_f (by simp only [tst_ap, eBin_ap, eVar_s, eVar_z, eC_ap, R.okb, dEq_s, asB_bl, show (("none" : Str) == "order") = false by decide]) rfl) ?_
  refine seq_go (if_f (by simp only [tst_ap, eBin_ap, eVar_s, eVar_z, eC_ap, R.okb, dEq_s, asB_bl, show (("none" : Str) == "group") = false by decide]) rfl) ?_
  refine seq_go (if_f (by simp only [tst_ap, eBin_ap, eVar_s, eVar_z, eC_ap, R.okb, dEq_s, asB_bl, show (("none" : Str) == "one") = false by decide]) rfl) ?_
  refine seq_rt (if_t (by simp only [tst_ap, eBin_ap, eVar_s, eVar_z, eC_ap, R.okb, dEq_s, asB_bl, beq_self_eq_true]) (ret_of ?_))
  · simp only [eBin_ap, eVar_s, eVar_z, eC_ap, R.okb, vOr_ap, asB_bl, s1 h, p1 h, s2 h, p2 h, sL h, pL h, hx, hz0, ho0, dNe_i, or_ok, nand]
    rfl
theorem fails6 {T : Tb} (h : T.WF) {x y z : Nat} (hx : x < T.n) (hy : y < T.n) (hz : z < T.n) : m__law_fails [T.d, .str "times", .tup [.int (x : Nat), .int (y : Nat), .int (z : Nat)]] = .ok (.bl (!okB T 6 x y z)) := by
  have hz0 := h.z
  have ho0 := h.o
  have e1 : dIx (.tup [.int (x : Nat), .int (y : Nat), .int (z : Nat)]) (.int 0) = .ok (.int (x : Nat)) := rfl
  have e2 : dIx (.tup [.int (x : Nat), .int (y : Nat), .int (z : Nat)]) (.int (3 / 2)) = .ok (.int (y : Nat)) := rfl
  have e3 : dIx (.tup [.int (x : Nat), .int (y : Nat), .int (z : Nat)]) (.int (-1)) = .ok (.int (z : Nat)) := rfl
  have e4 : dLen [.tup [.int (x : Nat), .int (y : Nat), .int (z : Nat)]] = .ok (.int 3) := rfl
  have e5 : dFdiv (.int 3) (.int 2) = .ok (.int (3 / 2)) := rfl
  unfold m__law_fails
  rw [runDo (n := 3) rfl]
  unfold b__law_fails
  simp only [List.map_cons, List.map_nil, List.cons_append, List.nil_append, List.replicate]
  refine seq_go (set_of (d := matD T.s) (by simp only [eBin_ap, eVar_s, eVar_z, eC_ap, R.okb, t0])) ?_
  simp only [List.set_cons_succ, List.set_cons_zero]
  refine seq_go (set_of (d := matD T.p) (by simp only [eBin_ap, eVar_s, eVar_z, eC_ap, R.okb, t1])) ?_
  simp only [List.set_cons_succ, List.set_cons_zero]
  refine seq_go (set_of (d := .int (T.z : Nat)) (by simp only [eBin_ap, eVar_s, eVar_z, eC_ap, R.okb, t2])) ?_
  simp only [List.set_cons_succ, List.set_cons_zero]
  refine seq_go (set_of (d := .int (T.o : Nat)) (by simp only [eBin_ap, eVar_s, eVar_z, eC_ap, R.okb, t3])) ?_
  simp only [List.set_cons_succ, List.set_cons_zero]
  refine seq_go (set_of (d := .int (x : Nat)) (by simp only [eBin_ap, eVar_s, eVar_z, eC_ap, R.okb, e1])) ?_
  simp only [List.set_cons_succ, List.set_cons_zero]
  refine seq_go (set_of (d := .int (y : Nat)) (by simp only [eBin_ap, eVar_s, eVar_z, eC_ap, R.okb, eCall_ap, eCons_ap, eNil_ap, e4, e5, e2])) ?_
  simp only [List.set_cons_succ, List.set_cons_zero]
  refine seq_go (set_of (d := .int (z : Nat)) (by simp only [eBin_ap, eVar_s, eVar_z, eC_ap, R.okb, dNeg_i, e3])) ?_
  simp only [List.set_cons_succ, List.set_cons_zero]
  refine seq_go (if_f (by simp only [tst_ap, eBin_ap, eVar_s, eVar_z, eC_ap, R.okb, dEq_s, asB_bl, show (("times" : Str) == "zero") = false by decide]) rfl) ?_
  refine seq_go (if_f (by simp only [tst_ap, eBin_ap, eVar_s, eVar_z, eC_ap, R.okb, dEq_s, asB_bl, show (("times" : Str) == "same") = false by decide]) rfl) ?_
  refine seq_go (if_f (by simp only [tst_ap, eBin_ap, eVar_s, eVar_z, eC_ap, R.okb, dEq_s, asB_bl, show (("times" : Str) == "order") = false by decide]) rfl) ?_
  refine seq_go (if_f (by simp only [tst_ap, eBin_ap, eVar_s, eVar_z, eC_ap, R.okb, dEq_s, asB_bl, show (("times" : Str) == "group") = false by decide]) rfl) ?_
  refine seq_go (if_f (by simp only [tst_ap, eBin_ap, eVar_s, eVar_z, eC_ap, R.okb, dEq_s, asB_bl, show (("times" : Str) == "one") = false by decide]) rfl) ?_
  refine seq_go (if_f (by simp only [tst_ap, eBin_ap, eVar_s, eVar_z, eC_ap, R.okb, dEq_s, asB_bl, show (("times" : Str) == "none") = false by decide]) rfl) ?_
  refine seq_rt (if_t (by simp only [tst_ap, eBin_ap, eVar_s, eVar_z, eC_ap, R.okb, dEq_s, asB_bl, beq_self_eq_true]) (ret_of ?_))
  · simp only [eBin_ap, eVar_s, eVar_z, eC_ap, R.okb, vOr_ap, asB_bl, s1 h, p1 h, s2 h, p2 h, sL h, pL h, hx, hy, hz, hz0, ho0, dNe_i, or_ok, nand]
    rfl
theorem fails7 {T : Tb} (h : T.WF) {x y z : Nat} (hx : x < T.n) (hy : y < T.n) (hz : z < T.n) : m__law_fails [T.d, .str "left", .tup [.int (x : Nat), .int (y : Nat), .int (z : Nat)]] = .ok (.bl (!okB T 7 x y z)) := by
  have hz0 := h.z
  have ho0 := h.o
  have e1 : dIx (.tup [.int (x : Nat), .int (y : Nat), .int (z : Nat)]) (.int 0) = .ok (.int (x : Nat)) := rfl
  have e2 : dIx (.tup [.int (x : Nat), .int (y : Nat), .int (z : Nat)]) (.int (3 / 2)) = .ok (.int (y : Nat)) := rfl
  have e3 : dIx (.tup [.int (x : Nat), .int (y : Nat), .int (z : Nat)]) (.int (-1)) = .ok (.int (z : Nat)) := rfl
  have e4 : dLen [.tup [.int (x : Nat), .int (y : Nat), .int (z : Nat)]] = .ok (.int 3) := rfl
  have e5 : dFdiv (.int 3) (.int 2) = .ok (.int (3 / 2)) := rfl
  unfold m__law_fails
  rw [runDo (n := 3) rfl]
  unfold b__law_fails
  simp only [List.map_cons, List.map_nil, List.cons_append, List.nil_append, List.replicate]
  refine seq_go (set_of (d := matD T.s) (by simp only [eBin_ap, eVar_s, eVar_z, eC_ap, R.okb, t0])) ?_
  simp only [List.set_cons_succ, List.set_cons_zero]
  refine seq_go (set_of (d := matD T.p) (by simp only [eBin_ap, eVar_s, eVar_z, eC_ap, R.okb, t1])) ?_
  simp only [List.set_cons_succ, List.set_cons_zero]
  refine seq_go (set_of (d := .int (T.z : Nat)) (by simp only [eBin_ap, eVar_s, eVar_z, eC_ap, R.okb, t2])) ?_
  simp only [List.set_cons_succ, List.set_cons_zero]
  refine seq_go (set_of (d := .int (T.o : Nat)) (by simp only [eBin_ap, eVar_s, eVar_z, eC_ap, R.okb, t3])) ?_
  simp only [List.set_cons_succ, List.set_cons_zero]
  refine seq_go (set_of (d := .int (x : Nat)) (by simp only [eBin_ap, eVar_s, eVar_z, eC_ap, R.okb, e1])) ?_
  simp only [List.set_cons_succ, List.set_cons_zero]
  refine seq_go (set_of (d := .int (y : Nat)) (by simp only [eBin_ap, eVar_s, eVar_z, eC_ap, R.okb, eCall_ap, eCons_ap, eNil_ap, e4, e5, e2])) ?_
  simp only [List.set_cons_succ, List.set_cons_zero]
  refine seq_go (set_of (d := .int (z : Nat)) (by simp only [eBin_ap, eVar_s, eVar_z, eC_ap, R.okb, dNeg_i, e3])) ?_
  simp only [List.set_cons_succ, List.set_cons_zero]
  refine seq_go (if_f (by simp only [tst_ap, eBin_ap, eVar_s, eVar_z, eC_ap, R.okb, dEq_s, asB_bl, show (("left" : Str) == "zero") = false by decide]) rfl) ?_
  refine seq_go (if_f (by simp only [tst_ap, eBin_ap, eVar_s, eVar_z, eC_ap, R.okb, dEq_s, asB_bl, show (("left" : Str) == "same") = false by decide]) rfl) ?_
  refine seq_go (if_f (by simp only [tst_ap, eBin_ap, eVar_s, eVar_z, eC_ap, R.okb, dEq_s, asB_bl, show (("left" : Str) == "order") = false by decide]) rfl) ?_
  refine seq_go (if_f (by simp only [tst_ap, eBin_ap, eVar_s, eVar_z, eC_ap, R.okb, dEq_s, asB_bl, show (("left" : Str) == "group") = false by decide]) rfl) ?_
  refine seq_go (if_f (by simp only [tst_ap, eBin_ap, eVar_s, eVar_z, eC_ap, R.okb, dEq_s, asB_bl, show (("left" : Str) == "one") = false by decide]) rfl) ?_
  refine seq_go (if_f (by simp only [tst_ap, eBin_ap, eVar_s, eVar_z, eC_ap, R.okb, dEq_s, asB_bl, show (("left" : Str) == "none") = false by decide]) rfl) ?_
  refine seq_go (if_f (by simp only [tst_ap, eBin_ap, eVar_s, eVar_z, eC_ap, R.okb, dEq_s, asB_bl, show (("left" : Str) == "times") = false by decide]) rfl) ?_
  refine seq_rt (if_t (by simp only [tst_ap, eBin_ap, eVar_s, eVar_z, eC_ap, R.okb, dEq_s, asB_bl, beq_self_eq_true]) (ret_of ?_))
  · simp only [eBin_ap, eVar_s, eVar_z, eC_ap, R.okb, vOr_ap, asB_bl, s1 h, p1 h, s2 h, p2 h, sL h, pL h, hx, hy, hz, hz0, ho0, dNe_i, or_ok, nand]
    rfl
theorem fails8 {T : Tb} (h : T.WF) {x y z : Nat} (hx : x < T.n) (hy : y < T.n) (hz : z < T.n) : m__law_fails [T.d, .str "right", .tup [.int (x : Nat), .int (y : Nat), .int (z : Nat)]] = .ok (.bl (!okB T 8 x y z)) := by
  have hz0 := h.z
  have ho0 := h.o
  have e1 : dIx (.tup [.int (x : Nat), .int (y : Nat), .int (z : Nat)]) (.int 0) = .ok (.int (x : Nat)) := rfl
  have e2 : dIx (.tup [.int (x : Nat), .int (y : Nat), .int (z : Nat)]) (.int (3 / 2)) = .ok (.int (y : Nat)) := rfl
  have e3 : dIx (.tup [.int (x : Nat), .int (y : Nat), .int (z : Nat)]) (.int (-1)) = .ok (.int (z : Nat)) := rfl
  have e4 : dLen [.tup [.int (x : Nat), .int (y : Nat), .int (z : Nat)]] = .ok (.int 3) := rfl
  have e5 : dFdiv (.int 3) (.int 2) = .ok (.int (3 / 2)) := rfl
  unfold m__law_fails
  rw [runDo (n := 3) rfl]
  unfold b__law_fails
  simp only [List.map_cons, List.map_nil, List.cons_append, List.nil_append, List.replicate]
  refine seq_go (set_of (d := matD T.s) (by simp only [eBin_ap, eVar_s, eVar_z, eC_ap, R.okb, t0])) ?_
  simp only [List.set_cons_succ, List.set_cons_zero]
  refine seq_go (set_of (d := matD T.p) (by simp only [eBin_ap, eVar_s, eVar_z, eC_ap, R.okb, t1])) ?_
  simp only [List.set_cons_succ, List.set_cons_zero]
  refine seq_go (set_of (d := .int (T.z : Nat)) (by simp only [eBin_ap, eVar_s, eVar_z, eC_ap, R.okb, t2])) ?_
  simp only [List.set_cons_succ, List.set_cons_zero]
  refine seq_go (set_of (d := .int (T.o : Nat)) (by simp only [eBin_ap, eVar_s, eVar_z, eC_ap, R.okb, t3])) ?_
  simp only [List.set_cons_succ, List.set_cons_zero]
  refine seq_go (set_of (d := .int (x : Nat)) (by simp only [eBin_ap, eVar_s, eVar_z, eC_ap, R.okb, e1])) ?_
  simp only [List.set_cons_succ, List.set_cons_zero]
  refine seq_go (set_of (d := .int (y : Nat)) (by simp only [eBin_ap, eVar_s, eVar_z, eC_ap, R.okb, eCall_ap, eCons_ap, eNil_ap, e4, e5, e2])) ?_
  simp only [List.set_cons_succ, List.set_cons_zero]
  refine seq_go (set_of (d := .int (z : Nat)) (by simp only [eBin_ap, eVar_s, eVar_z, eC_ap, R.okb, dNeg_i, e3])) ?_
  simp only [List.set_cons_succ, List.set_cons_zero]
  refine seq_go (if_f (by simp only [tst_ap, eBin_ap, eVar_s, eVar_z, eC_ap, R.okb, dEq_s, asB_bl, show (("right" : Str) == "zero") = false by decide]) rfl) ?_
  refine seq_go (if_f (by simp only [tst_ap, eBin_ap, eVar_s, eVar_z, eC_ap, R.okb, dEq_s, asB_bl, show (("right" : Str) == "same") = false by decide]) rfl) ?_
  refine seq_go (if_f (by simp only [tst_ap, eBin_ap, eVar_s, eVar_z, eC_ap, R.okb, dEq_s, asB_bl, show (("right" : Str) == "order") = false by decide]) rfl) ?_
  refine seq_go (if_f (by simp only [tst_ap, eBin_ap, eVar_s, eVar_z, eC_ap, R.okb, dEq_s, asB_bl, show (("right" : Str) == "group") = false by decide]) rfl) ?_
  refine seq_go (if_f (by simp only [tst_ap, eBin_ap, eVar_s, eVar_z, eC_ap, R.okb, dEq_s, asB_bl, show (("right" : Str) == "one") = false by decide]) rfl) ?_
  refine seq_go (if_f (by simp only [tst_ap, eBin_ap, eVar_s, eVar_z, eC_ap, R.okb, dEq_s, asB_bl, show (("right" : Str) == "none") = false by decide]) rfl) ?_
  refine seq_go (if_f (by simp only [tst_ap, eBin_ap, eVar_s, eVar_z, eC_ap, R.okb, dEq_s, asB_bl, show (("right" : Str) == "times") = false by decide]) rfl) ?_
  refine seq_go (if_f (by simp only [tst_ap, eBin_ap, eVar_s, eVar_z, eC_ap, R.okb, dEq_s, asB_bl, show (("right" : Str) == "left") = false by decide]) rfl) ?_
  refine ret_out ?_
  · simp only [eBin_ap, eVar_s, eVar_z, eC_ap, R.okb, vOr_ap, asB_bl, s1 h, p1 h, s2 h, p2 h, sL h, pL h, hx, hy, hz, hz0, ho0, dNe_i, or_ok, nand]
    rfl
end
end K17

/-! each rule as the program asks it -/
namespace K17
open PySem PySem.Spec PyProof.Rows L2 DD
section
variable [Iota] [CA]
theorem holds0 {T : Tb} (h : T.WF) {x : Nat} (hx : x < T.n) (S : Store) : m__holds [T.d, .str "zero", .tup [.int (x : Nat)]] S = .ok (.bl (okB T 0 x x x)) S := by
  have hz0 := h.z
  have ho0 := h.o
  unfold m__holds
  refine runS_rt rfl ?_
  unfold b__holds
  simp only [List.map_cons, List.map_nil, List.cons_append, List.nil_append, List.length_cons, List.length_nil, List.replicate]
  refine (yseq_go (ylift_nx (ρ' := [.fz T.d, .fz (.str "zero"), .fz (.tup [.int (x : Nat)]), .fz (matD T.s), .fz (matD T.p), .fz (.int (T.z : Nat)), .fz (.int (T.o : Nat)), .un, .un, .un]) rfl)).trans ?_
  refine yseq_rt ((ymatch_of (zL_of (a := .tup [.str "zero", .tup [.int (x : Nat)]]) rfl)).trans ?_)
  refine (ycase_yes (bs := [(7, .int (x : Nat))]) rfl).trans ?_
  refine ylift_rt (ret_of ?_)
  simp only [setAll, List.set_cons_succ, List.set_cons_zero, eBin_ap, eVar_s, eVar_z, eC_ap, R.okb, vAnd_ap, asB_bl, s1 h, p1 h, s2 h, p2 h, sL h, pL h, hx, hz0, ho0, dEq_i, and_ok]
  rfl
theorem holds1 {T : Tb} (h : T.WF) {x : Nat} (hx : x < T.n) (S : Store) : m__holds [T.d, .str "same", .tup [.int (x : Nat)]] S = .ok (.bl (okB T 1 x x x)) S := by
  have hz0 := h.z
  have ho0 := h.o
  unfold m__holds
  refine runS_rt rfl ?_
  unfold b__holds
  simp only [List.map_cons, List.map_nil, List.cons_append, List.nil_append, List.length_cons, List.length_nil, List.replicate]
  refine (yseq_go (ylift_nx (ρ' := [.fz T.d, .fz (.str "same"), .fz (.tup [.int (x : Nat)]), .fz (matD T.s), .fz (matD T.p), .fz (.int (T.z : Nat)), .fz (.int (T.o : Nat)), .un, .un, .un]) rfl)).trans ?_
  refine yseq_rt ((ymatch_of (zL_of (a := .tup [.str "same", .tup [.int (x : Nat)]]) rfl)).trans ?_)
  refine (ycase_no rfl).trans ?_
  refine (ycase_yes (bs := [(7, .int (x : Nat))]) rfl).trans ?_
  refine ylift_rt (ret_of ?_)
  simp only [setAll, List.set_cons_succ, List.set_cons_zero, eBin_ap, eVar_s, eVar_z, eC_ap, R.okb, vAnd_ap, asB_bl, s1 h, p1 h, s2 h, p2 h, sL h, pL h, hx, hz0, ho0, dEq_i, and_ok]
  rfl
theorem holds2 {T : Tb} (h : T.WF) {x y : Nat} (hx : x < T.n) (hy : y < T.n) (S : Store) : m__holds [T.d, .str "order", .tup [.int (x : Nat), .int (y : Nat)]] S = .ok (.bl (okB T 2 x y y)) S := by
  have hz0 := h.z
  have ho0 := h.o
  unfold m__holds
  refine runS_rt rfl ?_
  unfold b__holds
  simp only [List.map_cons, List.map_nil, List.cons_append, List.nil_append, List.length_cons, List.length_nil, List.replicate]
  refine (yseq_go (ylift_nx (ρ' := [.fz T.d, .fz (.str "order"), .fz (.tup [.int (x : Nat), .int (y : Nat)]), .fz (matD T.s), .fz (matD T.p), .fz (.int (T.z : Nat)), .fz (.int (T.o : Nat)), .un, .un, .un]) rfl)).trans ?_
  refine yseq_rt ((ymatch_of (zL_of (a := .tup [.str "order", .tup [.int (x : Nat), .int (y : Nat)]]) rfl)).trans ?_)
  refine (ycase_no rfl).trans ?_
  refine (ycase_no rfl).trans ?_
  refine (ycase_yes (bs := [(7, .int (x : Nat)), (8, .int (y : Nat))]) rfl).trans ?_
  refine ylift_rt (ret_of ?_)
  simp only [setAll, List.set_cons_succ, List.set_cons_zero, eBin_ap, eVar_s, eVar_z, eC_ap, R.okb, vAnd_ap, asB_bl, s1 h, p1 h, s2 h, p2 h, sL h, pL h, hx, hy, hz0, ho0, dEq_i, and_ok]
  rfl
theorem holds3 {T : Tb} (h : T.WF) {x y z : Nat} (hx : x < T.n) (hy : y < T.n) (hz : z < T.n) (S : Store) : m__holds [T.d, .str "group", .tup [.int (x : Nat), .int (y : Nat), .int (z : Nat)]] S = .ok (.bl (okB T 3 x y z)) S := by
  have hz0 := h.z
  have ho0 := h.o
  unfold m__holds
  refine runS_rt rfl ?_
  unfold b__holds
  simp only [List.map_cons, List.map_nil, List.cons_append, List.nil_append, List.length_cons, List.length_nil, List.replicate]
  refine (yseq_go (ylift_nx (ρ' := [.fz T.d, .fz (.str "group"), .fz (.tup [.int (x : Nat), .int (y : Nat), .int (z : Nat)]), .fz (matD T.s), .fz (matD T.p), .fz (.int (T.z : Nat)), .fz (.int (T.o : Nat)), .un, .un, .un]) rfl)).trans ?_
  refine yseq_rt ((ymatch_of (zL_of (a := .tup [.str "group", .tup [.int (x : Nat), .int (y : Nat), .int (z : Nat)]]) rfl)).trans ?_)
  refine (ycase_no rfl).trans ?_
  refine (ycase_no rfl).trans ?_
  refine (ycase_no rfl).trans ?_
  refine (ycase_yes (bs := [(7, .int (x : Nat)), (8, .int (y : Nat)), (9, .int (z : Nat))]) rfl).trans ?_
  refine ylift_rt (ret_of ?_)
  simp only [setAll, List.set_cons_succ, List.set_cons_zero, eBin_ap, eVar_s, eVar_z, eC_ap, R.okb, vAnd_ap, asB_bl, s1 h, p1 h, s2 h, p2 h, sL h, pL h, hx, hy, hz, hz0, ho0, dEq_i, and_ok]
  rfl
theorem holds4 {T : Tb} (h : T.WF) {x : Nat} (hx : x < T.n) (S : Store) : m__holds [T.d, .str "one", .tup [.int (x : Nat)]] S = .ok (.bl (okB T 4 x x x)) S := by
  have hz0 := h.z
  have ho0 := h.o
  unfold m__holds
  refine runS_rt rfl ?_
  unfold b__holds
  simp only [List.map_cons, List.map_nil, List.cons_append, List.nil_append, List.length_cons, List.length_nil, List.replicate]
  refine (yseq_go (ylift_nx (ρ' := [.fz T.d, .fz (.str "one"), .fz (.tup [.int (x : Nat)]), .fz (matD T.s), .fz (matD T.p), .fz (.int (T.z : Nat)), .fz (.int (T.o : Nat)), .un, .un, .un]) rfl)).trans ?_
  refine yseq_rt ((ymatch_of (zL_of (a := .tup [.str "one", .tup [.int (x : Nat)]]) rfl)).trans ?_)
  refine (ycase_no rfl).trans ?_
  refine (ycase_no rfl).trans ?_
  refine (ycase_no rfl).trans ?_
  refine (ycase_no rfl).trans ?_
  refine (ycase_yes (bs := [(7, .int (x : Nat))]) rfl).trans ?_
  refine ylift_rt (ret_of ?_)
  simp only [setAll, List.set_cons_succ, List.set_cons_zero, eBin_ap, eVar_s, eVar_z, eC_ap, R.okb, vAnd_ap, asB_bl, s1 h, p1 h, s2 h, p2 h, sL h, pL h, hx, hz0, ho0, dEq_i, and_ok]
  rfl
theorem holds5 {T : Tb} (h : T.WF) {x : Nat} (hx : x < T.n) (S : Store) : m__holds [T.d, .str "none", .tup [.int (x : Nat)]] S = .ok (.bl (okB T 5 x x x)) S := by
  have hz0 := h.z
  have ho0 := h.o
  unfold m__holds
  refine runS_rt rfl ?_
  unfold b__holds
  simp only [List.map_cons, List.map_nil, List.cons_append, List.nil_append, List.length_cons, List.length_nil, List.replicate]
  refine (yseq_go (ylift_nx (ρ' := [.fz T.d, .fz (.str "none"), .fz (.tup [.int (x : Nat)]), .fz (matD T.s), .fz (matD T.p), .fz (.int (T.z : Nat)), .fz (.int (T.o : Nat)), .un, .un, .un]) rfl)).trans ?_
  refine yseq_rt ((ymatch_of (zL_of (a := .tup [.str "none", .tup [.int (x : Nat)]]) rfl)).trans ?_)
  refine (ycase_no rfl).trans ?_
  refine (ycase_no rfl).trans ?_
  refine (ycase_no rfl).trans ?_
  refine (ycase_no rfl).trans ?_
  refine (ycase_no rfl).trans ?_
  refine (ycase_yes (bs := [(7, .int (x : Nat))]) rfl).trans ?_
  refine ylift_rt (ret_of ?_)
  simp only [setAll, List.set_cons_succ, List.set_cons_zero, eBin_ap, eVar_s, eVar_z, eC_ap, R.okb, vAnd_ap, asB_bl, s1 h, p1 h, s2 h, p2 h, sL h, pL h, hx, hz0, ho0, dEq_i, and_ok]
  rfl
theorem holds6 {T : Tb} (h : T.WF) {x y z : Nat} (hx : x < T.n) (hy : y < T.n) (hz : z < T.n) (S : Store) : m__holds [T.d, .str "times", .tup [.int (x : Nat), .int (y : Nat), .int (z : Nat)]] S = .ok (.bl (okB T 6 x y z)) S := by
  have hz0 := h.z
  have ho0 := h.o
  unfold m__holds
  refine runS_rt rfl ?_
  unfold b__holds
  simp only [List.map_cons, List.map_nil, List.cons_append, List.nil_append, List.length_cons, List.length_nil, List.replicate]
  refine (yseq_go (ylift_nx (ρ' := [.fz T.d, .fz (.str "times"), .fz (.tup [.int (x : Nat), .int (y : Nat), .int (z : Nat)]), .fz (matD T.s), .fz (matD T.p), .fz (.int (T.z : Nat)), .fz (.int (T.o : Nat)), .un, .un, .un]) rfl)).trans ?_
  refine yseq_rt ((ymatch_of (zL_of (a := .tup [.str "times", .tup [.int (x : Nat), .int (y : Nat), .int (z : Nat)]]) rfl)).trans ?_)
  refine (ycase_no rfl).trans ?_
  refine (ycase_no rfl).trans ?_
  refine (ycase_no rfl).trans ?_
  refine (ycase_no rfl).trans ?_
  refine (ycase_no rfl).trans ?_
  refine (ycase_no rfl).trans ?_
  refine (ycase_yes (bs := [(7, .int (x : Nat)), (8, .int (y : Nat)), (9, .int (z : Nat))]) rfl).trans ?_
  refine ylift_rt (ret_of ?_)
  simp only [setAll, List.set_cons_succ, List.set_cons_zero, eBin_ap, eVar_s, eVar_z, eC_ap, R.okb, vAnd_ap, asB_bl, s1 h, p1 h, s2 h, p2 h, sL h, pL h, hx, hy, hz, hz0, ho0, dEq_i, and_ok]
  rfl
theorem holds7 {T : Tb} (h : T.WF) {x y z : Nat} (hx : x < T.n) (hy : y < T.n) (hz : z < T.n) (S : Store) : m__holds [T.d, .str "left", .tup [.int (x : Nat), .int (y : Nat), .int (z : Nat)]] S = .ok (.bl (okB T 7 x y z)) S := by
  have hz0 := h.z
  have ho0 := h.o
  unfold m__holds
  refine runS_rt rfl ?_
  unfold b__holds
  simp only [List.map_cons, List.map_nil, List.cons_append, List.nil_append, List.length_cons, List.length_nil, List.replicate]
  refine (yseq_go (ylift_nx (ρ' := [.fz T.d, .fz (.str "left"), .fz (.tup [.int (x : Nat), .int (y : Nat), .int (z : Nat)]), .fz (matD T.s), .fz (matD T.p), .fz (.int (T.z : Nat)), .fz (.int (T.o : Nat)), .un, .un, .un]) rfl)).trans ?_
  refine yseq_rt ((ymatch_of (zL_of (a := .tup [.str "left", .tup [.int (x : Nat), .int (y : Nat), .int (z : Nat)]]) rfl)).trans ?_)
  refine (ycase_no rfl).trans ?_
  refine (ycase_no rfl).trans ?_
  refine (ycase_no rfl).trans ?_
  refine (ycase_no rfl).trans ?_
  refine (ycase_no rfl).trans ?_
  refine (ycase_no rfl).trans ?_
  refine (ycase_no rfl).trans ?_
  refine (ycase_yes (bs := [(7, .int (x : Nat)), (8, .int (y : Nat)), (9, .int (z : Nat))]) rfl).trans ?_
  refine ylift_rt (ret_of ?_)
  simp only [setAll, List.set_cons_succ, List.set_cons_zero, eBin_ap, eVar_s, eVar_z, eC_ap, R.okb, vAnd_ap, asB_bl, s1 h, p1 h, s2 h, p2 h, sL h, pL h, hx, hy, hz, hz0, ho0, dEq_i, and_ok]
  rfl
theorem holds8 {T : Tb} (h : T.WF) {x y z : Nat} (hx : x < T.n) (hy : y < T.n) (hz : z < T.n) (S : Store) : m__holds [T.d, .str "right", .tup [.int (x : Nat), .int (y : Nat), .int (z : Nat)]] S = .ok (.bl (okB T 8 x y z)) S := by
  have hz0 := h.z
  have ho0 := h.o
  unfold m__holds
  refine runS_rt rfl ?_
  unfold b__holds
  simp only [List.map_cons, List.map_nil, List.cons_append, List.nil_append, List.length_cons, List.length_nil, List.replicate]
  refine (yseq_go (ylift_nx (ρ' := [.fz T.d, .fz (.str "right"), .fz (.tup [.int (x : Nat), .int (y : Nat), .int (z : Nat)]), .fz (matD T.s), .fz (matD T.p), .fz (.int (T.z : Nat)), .fz (.int (T.o : Nat)), .un, .un, .un]) rfl)).trans ?_
  refine yseq_rt ((ymatch_of (zL_of (a := .tup [.str "right", .tup [.int (x : Nat), .int (y : Nat), .int (z : Nat)]]) rfl)).trans ?_)
  refine (ycase_no rfl).trans ?_
  refine (ycase_no rfl).trans ?_
  refine (ycase_no rfl).trans ?_
  refine (ycase_no rfl).trans ?_
  refine (ycase_no rfl).trans ?_
  refine (ycase_no rfl).trans ?_
  refine (ycase_no rfl).trans ?_
  refine (ycase_no rfl).trans ?_
  refine (ycase_yes (bs := [(7, .int (x : Nat)), (8, .int (y : Nat)), (9, .int (z : Nat))]) rfl).trans ?_
  refine ylift_rt (ret_of ?_)
  simp only [setAll, List.set_cons_succ, List.set_cons_zero, eBin_ap, eVar_s, eVar_z, eC_ap, R.okb, vAnd_ap, asB_bl, s1 h, p1 h, s2 h, p2 h, sL h, pL h, hx, hy, hz, hz0, ho0, dEq_i, and_ok]
  rfl
end
end K17

/-! the things; the law's own look -/
namespace K17
open PySem PySem.Spec PyProof.Rows L2 DD
def allT (n : Nat) : Nat → List (List Nat)
  | 0 => [[]]
  | k + 1 => (allT n k).flatMap fun one => (List.range n).map fun x => one ++ [x]
theorem allT_ok {n : Nat} : ∀ {k : Nat} {t : List Nat}, t ∈ allT n k → t.length = k ∧ ∀ x ∈ t, x < n
  | 0, t, h => by
    have : t = [] := List.mem_singleton.mp h
    subst this
    exact ⟨rfl, fun x hx => by cases hx⟩
  | k + 1, t, h => by
    obtain ⟨one, h1, h2⟩ := List.mem_flatMap.mp h
    obtain ⟨x, hx, rfl⟩ := List.mem_map.mp h2
    obtain ⟨l, a⟩ := allT_ok h1
    refine ⟨by rw [List.length_append, l]; rfl, fun y hy => ?_⟩
    rcases List.mem_append.mp hy with hy | hy
    · exact a y hy
    · rw [List.mem_singleton.mp hy]; exact List.mem_range.mp hx
def tupD (t : List Nat) : D := .tup (nums t)
def eqN : List D → List Nat → Bool
  | [], [] => true
  | .int i :: ds, n :: ns => decide (i = (n : Nat)) && eqN ds ns
  | _, _ => false
def eqT : List D → List (List Nat) → Bool
  | [], [] => true
  | .tup ds :: r, t :: ts => eqN ds t && eqT r ts
  | _, _ => false
theorem eqN_ok : ∀ {ds : List D} {t : List Nat}, eqN ds t = true → ds = nums t
  | [], [], _ => rfl
  | [], _ :: _, h => by cases h
  | d :: ds, [], h => by unfold eqN at h; cases d <;> cases h
  | d :: ds, n :: ns, h => by
    unfold eqN at h
    split at h
    · rename_i z _; cases z
    · rename_i i ds' n' ns' e1 e2
      cases e1; cases e2
      rw [Bool.and_eq_true] at h
      rw [eqN_ok h.2, of_decide_eq_true h.1]; rfl
    · cases h
theorem eqT_ok : ∀ {ds : List D} {t : List (List Nat)}, eqT ds t = true → ds = t.map tupD
  | [], [], _ => rfl
  | [], _ :: _, h => by cases h
  | d :: ds, [], h => by unfold eqT at h; cases d <;> cases h
  | d :: ds, n :: ns, h => by
    unfold eqT at h
    split at h
    · rename_i z _; cases z
    · rename_i i ds' n' ns' e1 e2
      cases e1; cases e2
      rw [Bool.and_eq_true] at h
      rw [eqT_ok h.2, eqN_ok h.1]; rfl
    · cases h
def isT (ts : List (List Nat)) : R D → Bool
  | .ok (.lst ds) => eqT ds ts
  | _ => false
theorem isT_ok {ts : List (List Nat)} {r : R D} (h : isT ts r = true) : r = .ok (.lst (ts.map tupD)) := by
  unfold isT at h
  split at h
  · rw [eqT_ok h]
  · cases h
theorem things_all : ((List.range 7).all fun n => (List.range 4).all fun m => isT (allT n m) (m__law_things [.int (n : Nat), .int (m : Nat)]) && isT (allT n m) (m__all_things [.int (n : Nat), .int (m : Nat)])) = true := by decide +kernel
theorem things_eq {n m : Nat} (hn : n ≤ 6) (hm : m ≤ 3) : m__law_things [.int (n : Nat), .int (m : Nat)] = .ok (.lst ((allT n m).map tupD)) ∧ m__all_things [.int (n : Nat), .int (m : Nat)] = .ok (.lst ((allT n m).map tupD)) := by
  have h := List.all_eq_true.mp (List.all_eq_true.mp things_all n (List.mem_range.mpr (by omega))) m (List.mem_range.mpr (by omega))
  rw [Bool.and_eq_true] at h
  exact ⟨isT_ok h.1, isT_ok h.2⟩
def okT (T : Tb) (id : Nat) (t : List Nat) : Bool := match t with
  | [x] => okB T id x x x
  | [x, y] => okB T id x y y
  | [x, y, z] => okB T id x y z
  | _ => true
def rulesL : List (Str × Nat × Nat) := [("zero", 0, 1), ("same", 1, 1), ("order", 2, 2), ("group", 3, 3), ("one", 4, 1), ("none", 5, 1), ("times", 6, 3), ("left", 7, 3), ("right", 8, 3)]
section
variable [Iota]
theorem d1_of {t : List Nat} {n : Nat} (h : t.length = 1) (ht : ∀ x ∈ t, x < n) : ∃ x, t = [x] ∧ x < n := by
  match t, h with
  | [x], _ => exact ⟨x, rfl, ht x (by simp)⟩
theorem d2_of {t : List Nat} {n : Nat} (h : t.length = 2) (ht : ∀ x ∈ t, x < n) : ∃ x y, t = [x, y] ∧ x < n ∧ y < n := by
  match t, h with
  | [x, y], _ => exact ⟨x, y, rfl, ht x (by simp), ht y (by simp)⟩
theorem d3_of {t : List Nat} {n : Nat} (h : t.length = 3) (ht : ∀ x ∈ t, x < n) : ∃ x y z, t = [x, y, z] ∧ x < n ∧ y < n ∧ z < n := by
  match t, h with
  | [x, y, z], _ => exact ⟨x, y, z, rfl, ht x (by simp), ht y (by simp), ht z (by simp)⟩
theorem both {T : Tb} (h : T.WF) {r : Str × Nat × Nat} (hr : r ∈ rulesL) {t : List Nat} (hl : t.length = r.2.2) (ht : ∀ x ∈ t, x < T.n) :
    m__law_fails [T.d, .str r.1, tupD t] = .ok (.bl (!okT T r.2.1 t)) ∧ ∀ [CA] (S : Store), m__holds [T.d, .str r.1, tupD t] S = .ok (.bl (okT T r.2.1 t)) S := by
  unfold rulesL at hr
  simp only [List.mem_cons, List.not_mem_nil, or_false] at hr
  rcases hr with rfl | rfl | rfl | rfl | rfl | rfl | rfl | rfl | rfl
  · obtain ⟨x, rfl, hx⟩ := d1_of hl ht; exact ⟨fails0 h hx, fun S => holds0 h hx S⟩
  · obtain ⟨x, rfl, hx⟩ := d1_of hl ht; exact ⟨fails1 h hx, fun S => holds1 h hx S⟩
  · obtain ⟨x, y, rfl, hx, hy⟩ := d2_of hl ht; exact ⟨fails2 h hx hy, fun S => holds2 h hx hy S⟩
  · obtain ⟨x, y, z, rfl, hx, hy, hz⟩ := d3_of hl ht; exact ⟨fails3 h hx hy hz, fun S => holds3 h hx hy hz S⟩
  · obtain ⟨x, rfl, hx⟩ := d1_of hl ht; exact ⟨fails4 h hx, fun S => holds4 h hx S⟩
  · obtain ⟨x, rfl, hx⟩ := d1_of hl ht; exact ⟨fails5 h hx, fun S => holds5 h hx S⟩
  · obtain ⟨x, y, z, rfl, hx, hy, hz⟩ := d3_of hl ht; exact ⟨fails6 h hx hy hz, fun S => holds6 h hx hy hz S⟩
  · obtain ⟨x, y, z, rfl, hx, hy, hz⟩ := d3_of hl ht; exact ⟨fails7 h hx hy hz, fun S => holds7 h hx hy hz S⟩
  · obtain ⟨x, y, z, rfl, hx, hy, hz⟩ := d3_of hl ht; exact ⟨fails8 h hx hy hz, fun S => holds8 h hx hy hz S⟩
/-- the first rule that is broken, and where -/
def badT (T : Tb) (id : Nat) (ts : List (List Nat)) : Option (List Nat) := ts.find? fun t => !okT T id t
def badIn (T : Tb) : List (Str × Nat × Nat) → Option (Str × List Nat)
  | [] => none
  | r :: rs => match badT T r.2.1 (allT T.n r.2.2) with
    | some t => some (r.1, t)
    | none => badIn T rs
theorem broken_in {T : Tb} {rs : D} {r : Str × Nat × Nat} : ∀ {ts : List (List Nat)} {s3 : Sl}, (∀ t ∈ ts, m__law_fails [T.d, .str r.1, tupD t] = .ok (.bl (!okT T r.2.1 t))) →
    match badT T r.2.1 ts with
    | some t => forR (tgN 3) b__law_broken_0 (ts.map tupD) [.fz T.d, .fz rs, .fz (.tup [.str r.1, .int (r.2.2 : Nat)]), s3] = .ok (.rt (.tup [.str r.1, tupD t]))
    | none => ∃ s3', forR (tgN 3) b__law_broken_0 (ts.map tupD) [.fz T.d, .fz rs, .fz (.tup [.str r.1, .int (r.2.2 : Nat)]), s3] = .ok (.nx [.fz T.d, .fz rs, .fz (.tup [.str r.1, .int (r.2.2 : Nat)]), s3'])
  | [], s3, _ => ⟨s3, rfl⟩
  | t :: ts, s3, hf => by
    have h1 := hf t (by simp)
    have hc : (fun ρ => eCall m__law_fails (eCons (eVar 0) (eCons (eBin dIx (eVar 2) (eC (.int 0))) (eCons (eVar 3) eNil))) ρ >>= truD) [.fz T.d, .fz rs, .fz (.tup [.str r.1, .int (r.2.2 : Nat)]), .fz (tupD t)] = .ok (!okT T r.2.1 t) := by
      have ix : dIx (.tup [.str r.1, .int (r.2.2 : Nat)]) (.int 0) = .ok (.str r.1) := rfl
      simp only [eCall_ap, eCons_ap, eBin_ap, eNil_ap, eVar_s, eVar_z, eC_ap, R.okb, ix, h1, truD_bl]
    unfold badT
    rw [List.find?_cons, List.map_cons]
    cases ho : (!okT T r.2.1 t) with
    | true =>
      rw [ho] at hc
      refine forR_rt ?_
      rw [tgN_ap, R.okb]
      simp only [List.set_cons_succ, List.set_cons_zero]
      exact if_t hc (ret_of rfl)
    | false =>
      rw [ho] at hc
      have step : (tgN 3 (tupD t) [.fz T.d, .fz rs, .fz (.tup [.str r.1, .int (r.2.2 : Nat)]), s3] >>= b__law_broken_0) = .ok (.nx [.fz T.d, .fz rs, .fz (.tup [.str r.1, .int (r.2.2 : Nat)]), .fz (tupD t)]) := by
        rw [tgN_ap, R.okb]
        simp only [List.set_cons_succ, List.set_cons_zero]
        exact if_f hc rfl
      have ih := broken_in (T := T) (rs := rs) (r := r) (ts := ts) (s3 := .fz (tupD t)) fun u hu => hf u (by simp [hu])
      show match badT T r.2.1 ts with
        | some t => _
        | none => _
      cases hb : badT T r.2.1 ts with
      | some u => rw [hb] at ih; rw [forR_nx step]; exact ih
      | none =>
        rw [hb] at ih
        obtain ⟨s3', e⟩ := ih
        exact ⟨s3', (forR_nx step).trans e⟩
end
end K17

/-! the law's look and the program's check agree -/
namespace K17
open PySem PySem.Spec PyProof.Rows L2 DD
def ruleD (r : Str × Nat × Nat) : D := .tup [.str r.1, .int (r.2.2 : Nat)]
def badD : Option (Str × List Nat) → D
  | none => .tup []
  | some (r, t) => .tup [.str r, tupD t]
theorem rules3 : rulesL.all (fun r => decide (r.2.2 ≤ 3)) = true := by decide
section
variable [Iota]
theorem broken_out {T : Tb} (h : T.WF) {L0 : D} : ∀ {rs : List (Str × Nat × Nat)} {s2 s3 : Sl}, (∀ r ∈ rs, r ∈ rulesL) →
    match badIn T rs with
    | some (r, t) => forR (tgN 2) b__law_broken_1 (rs.map ruleD) [.fz T.d, .fz L0, s2, s3] = .ok (.rt (.tup [.str r, tupD t]))
    | none => ∃ s2' s3', forR (tgN 2) b__law_broken_1 (rs.map ruleD) [.fz T.d, .fz L0, s2, s3] = .ok (.nx [.fz T.d, .fz L0, s2', s3'])
  | [], s2, s3, _ => ⟨s2, s3, rfl⟩
  | r :: rs, s2, s3, hr => by
    have hrm := hr r (by simp)
    have ha : r.2.2 ≤ 3 := of_decide_eq_true (List.all_eq_true.mp rules3 r hrm)
    have hth := (things_eq h.n6 ha).1
    have body : ∀ s3 : Sl, (tgN 2 (ruleD r) [.fz T.d, .fz L0, s2, s3] >>= b__law_broken_1) = forR (tgN 3) b__law_broken_0 ((allT T.n r.2.2).map tupD) [.fz T.d, .fz L0, .fz (.tup [.str r.1, .int (r.2.2 : Nat)]), s3] := fun s3 => by
      have ix : dIx (.tup [.str r.1, .int (r.2.2 : Nat)]) (.int 1) = .ok (.int (r.2.2 : Nat)) := rfl
      rw [tgN_ap, R.okb]
      simp only [List.set_cons_succ, List.set_cons_zero]
      unfold b__law_broken_1 ruleD
      rw [sFor_ap]
      simp only [eCall_ap, eCons_ap, eBin_ap, eNil_ap, eVar_s, eVar_z, eC_ap, R.okb, t0, len_t0 h, ix, hth, items_l]
    have bi := broken_in (T := T) (rs := L0) (r := r) (ts := allT T.n r.2.2) (s3 := s3) fun t ht => by
      obtain ⟨l, a⟩ := allT_ok ht
      exact (both h hrm l a).1
    unfold badIn
    rw [List.map_cons]
    cases hb : badT T r.2.1 (allT T.n r.2.2) with
    | some t =>
      rw [hb] at bi
      exact forR_rt ((body s3).trans bi)
    | none =>
      rw [hb] at bi
      obtain ⟨s3', e⟩ := bi
      have ih := broken_out h (L0 := L0) (rs := rs) (s2 := .fz (.tup [.str r.1, .int (r.2.2 : Nat)])) (s3 := s3') fun q hq => hr q (by simp [hq])
      show match badIn T rs with
        | some (r, t) => _
        | none => _
      have step := forR_nx (ds := rs.map ruleD) ((body s3).trans e)
      cases hc : badIn T rs with
      | some u => rw [hc] at ih; exact step.trans ih
      | none =>
        rw [hc] at ih
        obtain ⟨a, b, e2⟩ := ih
        exact ⟨a, b, step.trans e2⟩
theorem law_broken {T : Tb} (h : T.WF) : m__law_broken [T.d] = .ok (badD (badIn T rulesL)) := by
  have bo := broken_out h (L0 := .lst ((rulesL.take 8).map ruleD)) (rs := rulesL) (s2 := .un) (s3 := .un) fun r hr => hr
  unfold m__law_broken
  rw [runD1]
  unfold b__law_broken
  simp only [List.replicate]
  refine seq_go (set_of (d := .lst ((rulesL.take 8).map ruleD)) rfl) ?_
  simp only [List.set_cons_succ, List.set_cons_zero]
  have hs : sFor (fun ρ => (eBin dAdd (eVar 1) (toLst (eLst (eCons (eTup (eCons (eC (.str "right")) (eCons (eC (.int 3)) eNil))) eNil)))) ρ >>= items) (tgN 2) b__law_broken_1 [.fz T.d, .fz (.lst ((rulesL.take 8).map ruleD)), .un, .un] = forR (tgN 2) b__law_broken_1 (rulesL.map ruleD) [.fz T.d, .fz (.lst ((rulesL.take 8).map ruleD)), .un, .un] := by
    rw [sFor_ap]
    have e : (eBin dAdd (eVar 1) (toLst (eLst (eCons (eTup (eCons (eC (.str "right")) (eCons (eC (.int 3)) eNil))) eNil)))) [.fz T.d, .fz (.lst ((rulesL.take 8).map ruleD)), .un, .un] = .ok (.lst (rulesL.map ruleD)) := rfl
    show (eBin dAdd _ _ _ >>= items) >>= _ = _
    rw [e, R.okb, items_l, R.okb]
  cases hb : badIn T rulesL with
  | some u =>
    rw [hb] at bo
    exact seq_rt (hs.trans bo)
  | none =>
    rw [hb] at bo
    obtain ⟨a, b, e⟩ := bo
    exact seq_go (hs.trans e) (ret_out rfl)
end
end K17

/-! the program's check, judged -/
namespace K17
open PySem PySem.Spec PyProof.Rows L2 DD
section
variable [Iota] [CA]
theorem forS_nx {tg : D → En → R En} {body : En → SO} {d : D} {ds : List D} {ρ ρ1 ρ2 : En} {S S2 : Store} (h1 : tg d ρ = .ok ρ1) (h2 : body ρ1 S = .nx ρ2 S2) : forS tg body (d :: ds) ρ S = forS tg body ds ρ2 S2 := by
  unfold forS; rw [h1]; dsimp only; rw [h2]; cases ds <;> rfl
theorem forS_ex {tg : D → En → R En} {body : En → SO} {d : D} {ds : List D} {ρ ρ1 ρ2 : En} {S S2 : Store} {x : Exc} (h1 : tg d ρ = .ok ρ1) (h2 : body ρ1 S = .ex x ρ2 S2) : forS tg body (d :: ds) ρ S = .ex x ρ2 S2 := by
  unfold forS; rw [h1]; dsimp only; rw [h2]
theorem forS_rt {tg : D → En → R En} {body : En → SO} {d : D} {ds : List D} {ρ ρ1 : En} {S S2 : Store} {v : D} (h1 : tg d ρ = .ok ρ1) (h2 : body ρ1 S = .rt v S2) : forS tg body (d :: ds) ρ S = .rt v S2 := by
  unfold forS; rw [h1]; dsimp only; rw [h2]
theorem yfor_of {src : En → SM (List D)} {tg : D → En → R En} {body : En → SO} {ρ : En} {S S' : Store} {ds : List D} (h : src ρ S = .ok ds S') : yFor src tg body ρ S = forS tg body ds ρ S' := by unfold yFor; rw [sm_of h]
def excOf (r : Str) (t : List Nat) : Exc := ⟨CA.BadTable, true, ["things", "rule"], [tupD t, .str r]⟩
theorem ge_ok : ∀ r ∈ rulesL, ∀ x : D, ge_BadTable [.str r.1, x] = .ok () := by
  intro r hr x
  unfold rulesL at hr
  simp only [List.mem_cons, List.not_mem_nil, or_false] at hr
  rcases hr with rfl | rfl | rfl | rfl | rfl | rfl | rfl | rfl | rfl <;> rfl
theorem check_in {T : Tb} {r : Str × Nat × Nat} (hr : r ∈ rulesL) {s2 : Sl} {S : Store} : ∀ {ts : List (List Nat)} {s3 : Sl}, (∀ t ∈ ts, m__holds [T.d, .str r.1, tupD t] S = .ok (.bl (okT T r.2.1 t)) S) →
    match badT T r.2.1 ts with
    | some t => ∃ ρ', forS (tgN 3) b_check_table_0 (ts.map tupD) [.fz T.d, .fz (.str r.1), s2, s3] S = .ex (excOf r.1 t) ρ' S
    | none => ∃ s3', forS (tgN 3) b_check_table_0 (ts.map tupD) [.fz T.d, .fz (.str r.1), s2, s3] S = .nx [.fz T.d, .fz (.str r.1), s2, s3'] S
  | [], s3, _ => ⟨s3, rfl⟩
  | t :: ts, s3, hf => by
    have h1 := hf t (by simp)
    have tg : tgN 3 (tupD t) [.fz T.d, .fz (.str r.1), s2, s3] = .ok [.fz T.d, .fz (.str r.1), s2, .fz (tupD t)] := rfl
    have a3 : (eCons (eVar 0) (eCons (eVar 1) (eCons (eVar 3) eNil))) [.fz T.d, .fz (.str r.1), s2, .fz (tupD t)] = .ok [T.d, .str r.1, tupD t] := rfl
    have a2 : (eCons (eVar 1) (eCons (eVar 3) eNil)) [.fz T.d, .fz (.str r.1), s2, .fz (tupD t)] = .ok [.str r.1, tupD t] := rfl
    have hc : (zNot (zTst (zCallS m__holds (zL (eCons (eVar 0) (eCons (eVar 1) (eCons (eVar 3) eNil)))))) : En → SM Bool) [.fz T.d, .fz (.str r.1), s2, .fz (tupD t)] S = .ok (!okT T r.2.1 t) S := by
      unfold zNot zTst zCallS
      refine (smb_of (a := okT T r.2.1 t) (S' := S) ?_).trans rfl
      refine (smb_of (a := .bl (okT T r.2.1 t)) (S' := S) ?_).trans rfl
      exact (smb_of (zL_of a3)).trans h1
    unfold badT
    rw [List.find?_cons, List.map_cons]
    cases ho : (!okT T r.2.1 t) with
    | true =>
      rw [ho] at hc
      refine ⟨_, forS_ex (ρ2 := [.fz T.d, .fz (.str r.1), s2, .fz (tupD t)]) tg ?_⟩
      unfold b_check_table_0
      refine (yif_t hc).trans ?_
      unfold yRaise
      rw [sm_of (zL_of a2), if_pos ⟨rfl, by simp⟩, ge_ok r hr]
      rfl
    | false =>
      rw [ho] at hc
      have step : b_check_table_0 [.fz T.d, .fz (.str r.1), s2, .fz (tupD t)] S = .nx [.fz T.d, .fz (.str r.1), s2, .fz (tupD t)] S := by
        unfold b_check_table_0
        exact (yif_f hc).trans rfl
      have ih := check_in (T := T) hr (s2 := s2) (S := S) (ts := ts) (s3 := .fz (tupD t)) fun u hu => hf u (by simp [hu])
      show match badT T r.2.1 ts with
        | some t => _
        | none => _
      have fs := forS_nx (ds := ts.map tupD) tg step
      cases hb : badT T r.2.1 ts with
      | some u =>
        rw [hb] at ih
        obtain ⟨ρ', e⟩ := ih
        exact ⟨ρ', fs.trans e⟩
      | none =>
        rw [hb] at ih
        obtain ⟨s3', e⟩ := ih
        exact ⟨s3', fs.trans e⟩
def kruleD (r : Str × Nat × Nat) : D := .ktup [.str r.1, .int (r.2.2 : Nat)]
theorem check_out {T : Tb} (h : T.WF) {S : Store} : ∀ {rs : List (Str × Nat × Nat)} {s1 s2 s3 : Sl}, (∀ r ∈ rs, r ∈ rulesL) →
    match badIn T rs with
    | some (r, t) => ∃ ρ', forS (tgT 2 (tgsCons (tgN 1) (tgsCons (tgN 2) tgsNil))) b_check_table_1 (rs.map kruleD) [.fz T.d, s1, s2, s3] S = .ex (excOf r t) ρ' S
    | none => ∃ ρ', forS (tgT 2 (tgsCons (tgN 1) (tgsCons (tgN 2) tgsNil))) b_check_table_1 (rs.map kruleD) [.fz T.d, s1, s2, s3] S = .nx ρ' S
  | [], s1, s2, s3, _ => ⟨_, rfl⟩
  | r :: rs, s1, s2, s3, hr => by
    have hrm := hr r (by simp)
    have ha : r.2.2 ≤ 3 := of_decide_eq_true (List.all_eq_true.mp rules3 r hrm)
    have hth := (things_eq h.n6 ha).2
    have tg : tgT 2 (tgsCons (tgN 1) (tgsCons (tgN 2) tgsNil)) (kruleD r) [.fz T.d, s1, s2, s3] = .ok [.fz T.d, .fz (.str r.1), .fz (.int (r.2.2 : Nat)), s3] := rfl
    have body : b_check_table_1 [.fz T.d, .fz (.str r.1), .fz (.int (r.2.2 : Nat)), s3] S = forS (tgN 3) b_check_table_0 ((allT T.n r.2.2).map tupD) [.fz T.d, .fz (.str r.1), .fz (.int (r.2.2 : Nat)), s3] S := by
      unfold b_check_table_1
      refine yfor_of (zL_of ?_)
      simp only [eCall_ap, eCons_ap, eBin_ap, eNil_ap, eVar_s, eVar_z, eC_ap, R.okb, t0, len_t0 h, hth, items_l]
    have bi := check_in (T := T) hrm (s2 := .fz (.int (r.2.2 : Nat))) (S := S) (ts := allT T.n r.2.2) (s3 := s3) fun t ht => by
      obtain ⟨l, a⟩ := allT_ok ht
      exact (both h hrm l a).2 S
    unfold badIn
    rw [List.map_cons]
    cases hb : badT T r.2.1 (allT T.n r.2.2) with
    | some t =>
      rw [hb] at bi
      obtain ⟨ρ', e⟩ := bi
      exact ⟨ρ', forS_ex tg (body.trans e)⟩
    | none =>
      rw [hb] at bi
      obtain ⟨s3', e⟩ := bi
      have ih := check_out h (S := S) (rs := rs) (s1 := .fz (.str r.1)) (s2 := .fz (.int (r.2.2 : Nat))) (s3 := s3') fun q hq => hr q (by simp [hq])
      show match badIn T rs with
        | some (r, t) => _
        | none => _
      have fs := forS_nx (ds := rs.map kruleD) tg (body.trans e)
      cases hc : badIn T rs with
      | some u =>
        rw [hc] at ih
        obtain ⟨ρ', e⟩ := ih
        exact ⟨ρ', fs.trans e⟩
      | none =>
        rw [hc] at ih
        obtain ⟨ρ', e⟩ := ih
        exact ⟨ρ', fs.trans e⟩
theorem check_ok {T : Tb} (h : T.WF) (S : Store) : m_check_table [T.d] S = match badIn T rulesL with
    | some (r, t) => .err (excOf r t) S
    | none => .ok .non S := by
  have co := check_out h (S := S) (rs := rulesL) (s1 := .un) (s2 := .un) (s3 := .un) fun r hr => hr
  have b : b_check_table [.fz T.d, .un, .un, .un] S = forS (tgT 2 (tgsCons (tgN 1) (tgsCons (tgN 2) tgsNil))) b_check_table_1 (rulesL.map kruleD) [.fz T.d, .un, .un, .un] S := by
    unfold b_check_table
    exact yfor_of (zL_of rfl)
  unfold m_check_table
  cases hb : badIn T rulesL with
  | some u =>
    rw [hb] at co
    obtain ⟨ρ', e⟩ := co
    exact runS_ex rfl (b.trans e)
  | none =>
    rw [hb] at co
    obtain ⟨ρ', e⟩ := co
    exact runS_nx rfl (b.trans e)
theorem isO_y {C : Addr} {ns : List Str} {ds : List D} {no : List Addr} {S : Store} : isO [C] no (.exn C ns ds) S = .ok (.bl true) S := by
  show (if C ∈ [C] then RS.ok (D.bl true) S else if C ∈ no then .ok (D.bl false) S else .bad) = _
  rw [if_pos (by simp)]
theorem isO_n {C : Addr} {ns : List Str} {ds : List D} {S : Store} : isO [] [C] (.exn C ns ds) S = .ok (.bl false) S := by
  show (if C ∈ ([] : List Addr) then RS.ok (D.bl true) S else if C ∈ [C] then .ok (D.bl false) S else .bad) = _
  rw [if_neg (by simp), if_pos (by simp)]
theorem zIsE_of {yes no : List Addr} {fa fc : En → SM D} {ρ : En} {S S' : Store} {C : Addr} {ns : List Str} {ds : List D} {d c : D} (h1 : fa ρ S = .ok (.exn C ns ds) S) (h2 : fc ρ S = .ok c S) (h3 : isO yes no (.exn C ns ds) S = .ok d S') : zIsE yes no fa fc ρ S = .ok d S' := by
  unfold zIsE
  refine (smb_of h1).trans ?_
  refine (smb_of h2).trans ?_
  exact h3
theorem xf_of {C : Addr} {f : Str} {ns : List Str} {ds : List D} {d : D} {fe : En → SM D} {ρ : En} {S : Store} (h : fe ρ S = .ok (.exn C ns ds) S) (hd : (ns.zip ds).lookup f = some d) : zXf [C] f fe ρ S = .ok d S := by
  refine (smb_of h).trans ?_
  unfold xfS
  dsimp only
  rw [if_pos (by simp), hd]
  rfl
theorem test_none {T : Tb} {S : Store} (hk : m_check_table [T.d] S = .ok .non S) : zTst (zBin dIsN (zCallS m_check_table (zL (eCons (eVar 0) eNil))) (zL (eC .non))) [.fz T.d, .un] S = .ok true S :=
  ztst_of (zbin_of (zcallS_of (zL_of (a := [T.d]) rfl) hk) (zL_of (a := .non) rfl) rfl)
theorem test_some {T : Tb} {S : Store} {x : Exc} (hk : m_check_table [T.d] S = .err x S) : zTst (zBin dIsN (zCallS m_check_table (zL (eCons (eVar 0) eNil))) (zL (eC .non))) [.fz T.d, .un] S = .err x S :=
  ztst_ex (zbin_ex (zcallS_of (zL_of (a := [T.d]) rfl) hk))
theorem judged_ok {T : Tb} (h : T.WF) (S : Store) : m__law_judged [T.d] S = .ok (badD (badIn T rulesL)) S := by
  have hk := check_ok h S
  unfold m__law_judged
  refine runS_rt rfl ?_
  unfold b__law_judged
  simp only [List.map_cons, List.map_nil, List.cons_append, List.nil_append, List.length_cons, List.length_nil, List.replicate]
  cases hb : badIn T rulesL with
  | none =>
    rw [hb] at hk
    exact yseq_rt (ytry_rt ((yif_t (test_none hk)).trans (ylift_rt (ret_of (d := .tup []) rfl))))
  | some u =>
    obtain ⟨r, t⟩ := u
    rw [hb] at hk
    refine yseq_rt ((ytry_ex (yif_ex (test_some hk))).trans (hands_hit (by show CA.BadTable ∈ [CA.BadTable]; simp) ?_))
    show (ySeq _ _) [.fz T.d, .fz (.exn CA.BadTable ["things", "rule"] [tupD t, .str r])] S = _
    have x1 : (zL (eVar 1) : En → SM D) [.fz T.d, .fz (.exn CA.BadTable ["things", "rule"] [tupD t, .str r])] S = .ok (.exn CA.BadTable ["things", "rule"] [tupD t, .str r]) S := zL_of rfl
    refine (yseq_go (yif_f (zor_f (znot_of (b := true) (ztst_of (zIsE_of x1 (zL_of rfl) isO_y))) (znot_of (b := true) (ztst_of (zIsE_of x1 (zL_of rfl) isO_y)))))).trans ?_
    refine (yseq_go (yif_f (ztst_of (zIsE_of x1 (zL_of rfl) isO_n)))).trans ?_
    exact yret_of (ztup_of (zcons_of (xf_of x1 rfl) (zcons_of (xf_of x1 rfl) rfl)) (by simp))
end
end K17

/-! names and weights -/
namespace K17
open PySem PySem.Spec PyProof.Rows L2 DD
section
variable [Iota]
def LET : Str := "abcdefghijklmnopqrstuvwxyz"
theorem app_len (a b : Str) : (a ++ b).length = a.length + b.length := by
  show (a.cps ++ b.cps).size = a.cps.size + b.cps.size
  exact Array.size_append
theorem rev_len (w : Str) : (revS w).length = w.length := by
  show (revS w).cps.size = w.cps.size
  unfold revS
  simp
theorem let_ix (r : Int) : ∃ c, dIx (.str LET) (.int (r % 26)) = .ok (.str ⟨#[c]⟩) := by
  have h1 : 0 ≤ r % 26 := Int.emod_nonneg _ (by decide)
  have h2 : r % 26 < 26 := Int.emod_lt_of_pos _ (by decide)
  have hl : LET.cps.toList.length = 26 := by decide
  have hlt : (r % 26).toNat < LET.cps.toList.length := by rw [hl]; omega
  refine ⟨LET.cps.toList[(r % 26).toNat], ?_⟩
  have e : r % 26 = (((r % 26).toNat : Nat) : Int) := by omega
  have h3 : LET.length ≤ 16777216 := by decide
  have := dIx_s (z := LET) (n := (r % 26).toNat) h3 (List.getElem?_eq_getElem hlt)
  rw [← e] at this
  exact this
theorem name_step {a b : Sl} {rest : Int} {w : Str} {k : Nat} {x : Sl} (hk : k < 11) (hw : w.length ≤ k + 1) :
    ∃ ρ', (tgN 5 (.int (k : Nat)) [a, b, .fz (.str LET), .fz (.int rest), .fz (.str w), x] >>= b__law_name_0) = .ok (.nx ρ') ∧
      ∃ (r : Int) (u : Str) (x' : Sl), ρ' = [a, b, .fz (.str LET), .fz (.int r), .fz (.str u), x'] ∧ u.length ≤ k + 1 + 1 := by
  rw [tgN_ap, R.okb]
  simp only [List.set_cons_succ, List.set_cons_zero]
  unfold b__law_name_0
  by_cases hr : 0 < rest
  · obtain ⟨c, e1⟩ := let_ix rest
    refine ⟨_, if_t ?_ (seq_go' (set_of (d := .str (⟨#[c]⟩ ++ w)) ?_) (set_of (d := .int (rest / 26)) ?_)), ?_⟩
    · simp only [tst_ap, eBin_ap, eVar_s, eVar_z, eC_ap, R.okb, dGt_i, asB_bl, decide_eq_true hr]
    · simp only [eBin_ap, eCall_ap, eCons_ap, eNil_ap, eVar_s, eVar_z, eC_ap, R.okb, dInt_i]
      rw [dMod_i (by decide)]
      simp only [R.okb, e1]
      exact dAdd_s (by show 1 + w.length ≤ _; omega)
    · simp only [List.set_cons_succ, List.set_cons_zero, eBin_ap, eVar_s, eVar_z, eC_ap, R.okb]
      exact dFdiv_i (by decide) (by decide)
    · refine ⟨rest / 26, ⟨#[c]⟩ ++ w, .fz (.int (k : Nat)), ?_, ?_⟩
      · simp only [List.set_cons_succ, List.set_cons_zero]
      · rw [app_len]; show 1 + w.length ≤ _; omega
  · refine ⟨_, if_f ?_ rfl, rest, w, .fz (.int (k : Nat)), rfl, by omega⟩
    simp only [tst_ap, eBin_ap, eVar_s, eVar_z, eC_ap, R.okb, dGt_i, asB_bl, decide_eq_false hr]
theorem law_name (nu sa : Int) : ∃ w : Str, m__law_name [.int nu, .int sa] = .ok (.str w) := by
  unfold m__law_name
  rw [runD2]
  unfold b__law_name
  obtain ⟨c, e1⟩ := let_ix (sa * 64 + nu)
  obtain ⟨ρ', f1, r2, w, x, f2, f3⟩ := forRng_inv (tg := tgN 5) (body := b__law_name_0) (n := 11) (fun k ρ => ∃ (rest : Int) (w : Str) (x : Sl), ρ = [.fz (.int nu), .fz (.int sa), .fz (.str LET), .fz (.int rest), .fz (.str w), x] ∧ w.length ≤ k + 1)
    (fun k hk ρ ⟨rest, w, x, e, hb⟩ => by
      subst e
      exact name_step hk hb)
    [.fz (.int nu), .fz (.int sa), .fz (.str LET), .fz (.int ((sa * 64 + nu) / 26)), .fz (.str ⟨#[c]⟩), .un] ⟨_, _, _, rfl, Nat.le_refl 1⟩
  have key : ∃ u, (sSeq (sIf (tst (eBin dEq (eBin dMod (eCall dInt (eCons (eVar 1) eNil)) (eC (.int 2))) (eC (.int 1)))) (sRet (fun ρ => (eVar 4) ρ >>= dRev)) sNext) (sRet (eVar 4)) ρ' >>= outK) = .ok (.str u) := by
    subst f2
    by_cases h : (sa % 2 == 1) = true
    · refine ⟨revS w, seq_rt (if_t ?_ (ret_of ?_))⟩
      · simp only [tst_ap, eBin_ap, eCall_ap, eCons_ap, eNil_ap, eVar_s, eVar_z, eC_ap, R.okb, dInt_i]
        rw [dMod_i (by decide)]
        simp only [R.okb, dEq_i, asB_bl, h]
      · simp only [eVar_s, eVar_z, R.okb]
        exact dRev_s (by omega)
    · refine ⟨w, seq_go (if_f ?_ rfl) (ret_out rfl)⟩
      simp only [tst_ap, eBin_ap, eCall_ap, eCons_ap, eNil_ap, eVar_s, eVar_z, eC_ap, R.okb, dInt_i]
      rw [dMod_i (by decide)]
      simp only [R.okb, dEq_i, asB_bl]
      cases h' : (sa % 2 == 1) with
      | false => rfl
      | true => exact absurd h' h
  obtain ⟨u, ku⟩ := key
  refine ⟨u, ?_⟩
  simp only [List.replicate]
  refine seq_go (set_of (d := .str LET) rfl) ?_
  simp only [List.set_cons_succ, List.set_cons_zero]
  refine seq_go (set_of (d := .int (sa * 64 + nu)) ?_) ?_
  · simp only [eBin_ap, eVar_s, eVar_z, eC_ap, R.okb]
    rw [dMul_r (by decide)]
    simp only [R.okb, dAdd_i]
  simp only [List.set_cons_succ, List.set_cons_zero]
  refine seq_go (set_of (d := .str ⟨#[c]⟩) ?_) ?_
  · simp only [eBin_ap, eCall_ap, eCons_ap, eNil_ap, eVar_s, eVar_z, eC_ap, R.okb, dInt_i]
    rw [dMod_i (by decide)]
    simp only [R.okb, e1]
  simp only [List.set_cons_succ, List.set_cons_zero]
  refine seq_go (set_of (d := .int ((sa * 64 + nu) / 26)) ?_) ?_
  · simp only [eBin_ap, eVar_s, eVar_z, eC_ap, R.okb]
    exact dFdiv_i (by decide) (by decide)
  simp only [List.set_cons_succ, List.set_cons_zero]
  refine seq_go (ρ' := ρ') ?_ ku
  rw [sFor_rng 11 (i := 11) (by simp only [eCons_ap, eC_ap, eNil_ap, R.okb]) rfl (by omega)]
  exact f1
end
end K17

/-! the drawn weights -/
namespace K17
open PySem PySem.Spec PyProof.Rows L2 DD
section
variable [Iota] [CA]
theorem forS_rng {tg : D → En → R En} {body : En → SO} {n : Nat} (P : Nat → En → Store → Prop) (hs : ∀ k, k < n → ∀ ρ S, P k ρ S → ∃ ρ1 ρ' S', tg (.int (k : Nat)) ρ = .ok ρ1 ∧ body ρ1 S = .nx ρ' S' ∧ P (k + 1) ρ' S') :
    ∀ ρ S, P 0 ρ S → ∃ ρ' S', forS tg body ((List.range' 0 n).map fun (k : Nat) => D.int (0 + (k : Int))) ρ S = .nx ρ' S' ∧ P n ρ' S' := by
  have key : ∀ (m a : Nat), a + m = n → ∀ ρ S, P a ρ S → ∃ ρ' S', forS tg body ((List.range' a m).map fun (k : Nat) => D.int (0 + (k : Int))) ρ S = .nx ρ' S' ∧ P n ρ' S' := by
    intro m
    induction m with
    | zero => intro a h ρ S hp; exact ⟨ρ, S, rfl, by rw [← h]; exact hp⟩
    | succ m ih =>
      intro a h ρ S hp
      obtain ⟨ρ1, ρ2, S2, e1, e2, p1⟩ := hs a (by omega) ρ S hp
      obtain ⟨ρ3, S3, e3, p3⟩ := ih (a + 1) (by omega) ρ2 S2 p1
      refine ⟨ρ3, S3, ?_, p3⟩
      rw [List.range'_succ, List.map_cons, Int.zero_add, forS_nx e1 e2]
      exact e3
  intro ρ S hp
  exact key n 0 (by omega) ρ S hp
theorem yfor_rng {f : En → R (List D)} {tg : D → En → R En} {body : En → SO} {ρ : En} {S : Store} {i : Int} (n : Nat) (h : f ρ = .ok [.int i]) (hi : i = (n : Nat)) (hn : n < 1000000) : yFor (zL fun ρ => f ρ >>= dRng1) tg body ρ S = forS tg body ((List.range' 0 n).map fun (k : Nat) => D.int (0 + (k : Int))) ρ S := by
  refine yfor_of (zL_of ?_)
  rw [h, R.okb, hi]
  exact rng_nat hn
end
noncomputable def nmF (nu sa : Int) : Str := (@law_name ⟨[]⟩ nu sa).choose
theorem nm_ok (nu sa : Int) : m__law_name [.int nu, .int sa] = .ok (.str (nmF nu sa)) := (@law_name ⟨[]⟩ nu sa).choose_spec
noncomputable def kq (ds : List Int) (t : Nat) : List Key := [.inr (nmF (27 + (t : Int)) (ds.getD 1 0)), .inr (nmF (44 + ds.getD (2 + t) 0 % 5) (ds.getD 1 0))]
def vq (n : Nat) (ds : List Int) (t : Nat) : Nat := (ds.getD (6 + t) 0 % (n : Int)).toNat
noncomputable def wF (n : Nat) (ds : List Int) : Nat → List (List Key) × List Nat
  | 0 => ([], [])
  | t + 1 => (putKk (wF n ds t).1 (kq ds t), putAt (wF n ds t).1 (wF n ds t).2 (kq ds t) (vq n ds t))
structure WOk (n : Nat) (ks : List (List Key)) (l : List Nat) : Prop where
  len : ks.length = l.length
  nd : ks.Nodup
  lt : ∀ x ∈ l, x < n
  two : ∀ k ∈ ks, ∃ a b : Str, k = [.inr a, .inr b]
theorem putAt_len {κ α : Type} [DecidableEq κ] {ks : List κ} {l : List α} (h : ks.length = l.length) (k : κ) (x : α) : (putKk ks k).length = (putAt ks l k x).length := by
  unfold putKk DD.putAt
  by_cases hm : k ∈ ks
  · rw [if_pos hm, if_pos hm, List.length_map, List.length_zip, h, Nat.min_self]
  · rw [if_neg hm, if_neg hm, List.length_append, List.length_append, h]; rfl
theorem putAt_mem {κ α : Type} [DecidableEq κ] {ks : List κ} {l : List α} {k : κ} {x y : α} (h : y ∈ putAt ks l k x) : y = x ∨ y ∈ l := by
  unfold DD.putAt at h
  split at h
  · obtain ⟨p, hp, e⟩ := List.mem_map.mp h
    by_cases hk : p.1 = k
    · rw [if_pos hk] at e; exact .inl e.symm
    · rw [if_neg hk] at e
      exact .inr (e ▸ (List.of_mem_zip hp).2)
  · rcases List.mem_append.mp h with h | h
    · exact .inr h
    · exact .inl (List.mem_singleton.mp h)
theorem putKk_nd {κ : Type} [DecidableEq κ] {ks : List κ} (h : ks.Nodup) (k : κ) : (putKk ks k).Nodup := by
  unfold putKk
  by_cases hm : k ∈ ks
  · rw [if_pos hm]; exact h
  · rw [if_neg hm, List.nodup_append]
    exact ⟨h, by simp, fun a ha b hb => by rw [List.mem_singleton.mp hb]; exact fun e => hm (e ▸ ha)⟩
theorem putKk_mem {κ : Type} [DecidableEq κ] {ks : List κ} {k q : κ} (h : q ∈ putKk ks k) : q = k ∨ q ∈ ks := by
  unfold putKk at h
  split at h
  · exact .inr h
  · rcases List.mem_append.mp h with h | h
    · exact .inr h
    · exact .inl (List.mem_singleton.mp h)
theorem putAt_nums {κ : Type} [DecidableEq κ] {ks : List κ} {l : List Nat} {k : κ} {x : Nat} : putAt ks (nums l) k (.int (x : Nat)) = nums (putAt ks l k x) := by
  unfold DD.putAt
  by_cases hm : k ∈ ks
  · rw [if_pos hm, if_pos hm]
    unfold nums
    rw [List.zip_map_right, List.map_map, List.map_map]
    congr 1
    funext p
    show (if p.1 = k then D.int (x : Nat) else D.int (p.2 : Nat)) = D.int ((if p.1 = k then x else p.2 : Nat) : Int)
    by_cases h : p.1 = k
    · rw [if_pos h, if_pos h]
    · rw [if_neg h, if_neg h]
  · rw [if_neg hm, if_neg hm, @nums_app ⟨[]⟩]
theorem wF_ok {n : Nat} (hn : 1 ≤ n) (ds : List Int) : ∀ t, WOk n (wF n ds t).1 (wF n ds t).2 ∧ (wF n ds t).1.length ≤ t
  | 0 => ⟨⟨rfl, List.nodup_nil, (fun x h => by cases h), (fun k h => by cases h)⟩, Nat.le_refl _⟩
  | t + 1 => by
    obtain ⟨w, hl⟩ := wF_ok hn ds t
    refine ⟨⟨putAt_len w.len _ _, putKk_nd w.nd _, fun x hx => ?_, fun k hk => ?_⟩, ?_⟩
    · rcases putAt_mem hx with rfl | h
      · have h1 : 0 ≤ ds.getD (6 + t) 0 % (n : Int) := Int.emod_nonneg _ (by omega)
        have h2 : ds.getD (6 + t) 0 % (n : Int) < n := Int.emod_lt_of_pos _ (by omega)
        unfold vq; omega
      · exact w.lt x h
    · rcases putKk_mem hk with rfl | h
      · exact ⟨_, _, rfl⟩
      · exact w.two k h
    · show (putKk _ _).length ≤ t + 1
      unfold putKk
      split
      · omega
      · rw [List.length_append]; simp; omega
section
variable [Iota] [CA]
theorem lst_getD {ds : List Int} {i : Nat} (h : i < ds.length) : dIx (.lst (ds.map D.int)) (.int ((i : Nat) : Int)) = .ok (.int (ds.getD i 0)) := by
  rw [lst_get h, List.getD_eq_getElem?_getD, List.getElem?_eq_getElem h]; rfl
theorem set_last {S : Store} {a b : Ob} : (S ++ [a]).set S.length b = S ++ [b] := by
  rw [List.set_append_right _ _ (Nat.le_refl _), Nat.sub_self]; rfl
theorem get_last {S : Store} {a : Ob} : (S ++ [a])[S.length]? = some a := by simp
theorem law_weights {n : Nat} (hn : 1 ≤ n) {ds : List Int} (hl : ds.length = 10) (hb : Bd ds) (S : Store) : ∃ t, m__law_weights [.int (n : Nat), .lst (ds.map D.int)] S = .ok (.ref S.length) (S ++ [.dT (wF n ds t).1 (nums (wF n ds t).2)]) ∧ t = (ds.getD 0 0 % 5).toNat := by
  refine ⟨_, ?_, rfl⟩
  have h5a : 0 ≤ ds.getD 0 0 % 5 := Int.emod_nonneg _ (by decide)
  have h5b : ds.getD 0 0 % 5 < 5 := Int.emod_lt_of_pos _ (by decide)
  have i0 : dIx (.lst (ds.map D.int)) (.int 0) = .ok (.int (ds.getD 0 0)) := lst_getD (ds := ds) (i := 0) (by omega)
  have i1 : dIx (.lst (ds.map D.int)) (.int 1) = .ok (.int (ds.getD 1 0)) := lst_getD (ds := ds) (i := 1) (by omega)
  obtain ⟨ρ', S', e1, s3, s4, e2, e3⟩ := forS_rng (tg := tgN 3) (body := b__law_weights_0) (n := (ds.getD 0 0 % 5).toNat)
    (fun t ρ S' => ∃ s3 s4 : Sl, ρ = [.fz (.int (n : Nat)), .fz (.lst (ds.map D.int)), .fz (.ref S.length), s3, s4] ∧ S' = S ++ [.dT (wF n ds t).1 (nums (wF n ds t).2)])
    (fun t ht ρ S' ⟨s3, s4, e1, e2⟩ => by
      subst e1; subst e2
      have i2 : dIx (.lst (ds.map D.int)) (.int (2 + (t : Int))) = .ok (.int (ds.getD (2 + t) 0)) := by
        have := lst_getD (ds := ds) (i := 2 + t) (by omega)
        rw [show ((2 + t : Nat) : Int) = 2 + (t : Int) by omega] at this
        exact this
      have i6 : dIx (.lst (ds.map D.int)) (.int (6 + (t : Int))) = .ok (.int (ds.getD (6 + t) 0)) := by
        have := lst_getD (ds := ds) (i := 6 + t) (by omega)
        rw [show ((6 + t : Nat) : Int) = 6 + (t : Int) by omega] at this
        exact this
      have n1 := nm_ok (27 + (t : Int)) (ds.getD 1 0)
      have n2 := nm_ok (44 + ds.getD (2 + t) 0 % 5) (ds.getD 1 0)
      have m5 : dMod (.int (ds.getD (2 + t) 0)) (.int 5) = .ok (.int (ds.getD (2 + t) 0 % 5)) := dMod_i (by decide)
      have mn : dMod (.int (ds.getD (6 + t) 0)) (.int (n : Nat)) = .ok (.int (ds.getD (6 + t) 0 % (n : Int))) := dMod_i (by omega)
      have hv : ds.getD (6 + t) 0 % (n : Int) = ((vq n ds t : Nat) : Int) := by
        have h1 : 0 ≤ ds.getD (6 + t) 0 % (n : Int) := Int.emod_nonneg _ (by omega)
        unfold vq; omega
      rw [hv] at mn
      have w := wF_ok hn ds t
      have hlen : (nums (wF n ds t).2).length < 16777216 := by rw [nums_len, ← w.1.len]; omega
      refine ⟨_, [.fz (.int (n : Nat)), .fz (.lst (ds.map D.int)), .fz (.ref S.length), .fz (.int (t : Nat)), .fz (.tup [.str (nmF (27 + (t : Int)) (ds.getD 1 0)), .str (nmF (44 + ds.getD (2 + t) 0 % 5) (ds.getD 1 0))])], _, rfl, ?_, _, _, rfl, rfl⟩
      unfold b__law_weights_0
      refine (yseq_go (ylift_nx (set_of (d := .tup [.str (nmF (27 + (t : Int)) (ds.getD 1 0)), .str (nmF (44 + ds.getD (2 + t) 0 % 5) (ds.getD 1 0))]) ?_))).trans ?_
      · simp only [List.set_cons_succ, List.set_cons_zero, eTup_ap, eCons_ap, eCall_ap, eBin_ap, eNil_ap, eVar_s, eVar_z, eC_ap, R.okb, i1, i2, dAdd_i, dInt_i, m5, n1, n2]
        rfl
      simp only [List.set_cons_succ, List.set_cons_zero]
      unfold yPut2
      refine (sm_of (zL_of (a := D.int ((vq n ds t : Nat) : Int)) ?_)).trans ?_
      · simp only [eBin_ap, eCall_ap, eCons_ap, eNil_ap, eVar_s, eVar_z, eC_ap, R.okb, i6, dAdd_i, dInt_i, mn]
      refine (sm_of (zL_of (a := D.ref S.length) rfl)).trans ((sm_of (zL_of (a := D.tup [.str (nmF (27 + (t : Int)) (ds.getD 1 0)), .str (nmF (44 + ds.getD (2 + t) 0 % 5) (ds.getD 1 0))]) rfl)).trans ?_)
      unfold putS2
      dsimp only
      rw [get_last]
      dsimp only
      have hk : keyT (.tup [.str (nmF (27 + (t : Int)) (ds.getD 1 0)), .str (nmF (44 + ds.getD (2 + t) 0 % 5) (ds.getD 1 0))]) = .ok (kq ds t) := rfl
      rw [hk]
      dsimp only
      rw [if_pos hlen, set_last, putAt_nums]
      rfl)
    [.fz (.int (n : Nat)), .fz (.lst (ds.map D.int)), .fz (.ref S.length), .un, .un] (S ++ [.dT [] []]) ⟨_, _, rfl, rfl⟩
  subst e2; subst e3
  unfold m__law_weights
  refine runS_rt rfl ?_
  unfold b__law_weights
  simp only [List.map_cons, List.map_nil, List.cons_append, List.nil_append, List.length_cons, List.length_nil, List.replicate]
  refine (yseq_go (yset_of (d := .ref S.length) (S' := S ++ [.dT [] []]) rfl)).trans ?_
  simp only [List.set_cons_succ, List.set_cons_zero]
  refine (yseq_go ((yfor_rng (ds.getD 0 0 % 5).toNat (i := ds.getD 0 0 % 5) ?_ (by omega) (by omega)).trans e1)).trans (ylift_rt (ret_of rfl))
  simp only [eCons_ap, eBin_ap, eCall_ap, eNil_ap, eVar_s, eVar_z, eC_ap, R.okb, i0, dInt_i]
  rw [dMod_i (by decide)]
  rfl
end
end K17

/-! a table that keeps the rules: the two stars are one -/
namespace K17
open PySem PySem.Spec PyProof.Rows L2 DD
theorem mem1 {n x : Nat} (hx : x < n) : [x] ∈ allT n 1 := List.mem_flatMap.mpr ⟨[], List.mem_singleton.mpr rfl, List.mem_map.mpr ⟨x, List.mem_range.mpr hx, rfl⟩⟩
theorem mem2 {n x y : Nat} (hx : x < n) (hy : y < n) : [x, y] ∈ allT n 2 := List.mem_flatMap.mpr ⟨[x], mem1 hx, List.mem_map.mpr ⟨y, List.mem_range.mpr hy, rfl⟩⟩
theorem mem3 {n x y z : Nat} (hx : x < n) (hy : y < n) (hz : z < n) : [x, y, z] ∈ allT n 3 := List.mem_flatMap.mpr ⟨[x, y], mem2 hx hy, List.mem_map.mpr ⟨z, List.mem_range.mpr hz, rfl⟩⟩
theorem eqB_of {a b : Nat} (h : eqB a b = true) : a = b := by
  have : ((a : Nat) : Int) = (b : Nat) := beq_iff_eq.mp h
  omega
theorem bad_none {T : Tb} : ∀ {rs : List (Str × Nat × Nat)}, badIn T rs = none → ∀ r ∈ rs, ∀ t ∈ allT T.n r.2.2, okT T r.2.1 t = true
  | [], _, r, hr => by cases hr
  | q :: rs, h, r, hr => by
    unfold badIn at h
    split at h
    · cases h
    · rename_i hb
      rcases List.mem_cons.mp hr with rfl | hr
      · intro t ht
        have := List.find?_eq_none.mp hb t ht
        simpa using this
      · exact bad_none h r hr
structure Semi (T : Tb) : Prop where
  idem : ∀ x, x < T.n → T.sum x x = x
  comm : ∀ x y, x < T.n → y < T.n → T.sum x y = T.sum y x
  assoc : ∀ x y z, x < T.n → y < T.n → z < T.n → T.sum (T.sum x y) z = T.sum x (T.sum y z)
  one1 : ∀ x, x < T.n → T.pro T.o x = x
  one2 : ∀ x, x < T.n → T.pro x T.o = x
  tas : ∀ x y z, x < T.n → y < T.n → z < T.n → T.pro (T.pro x y) z = T.pro x (T.pro y z)
  left : ∀ x y z, x < T.n → y < T.n → z < T.n → T.pro x (T.sum y z) = T.sum (T.pro x y) (T.pro x z)
theorem semi_of {T : Tb} (h : badIn T rulesL = none) : Semi T := by
  have g := bad_none h
  refine ⟨fun x hx => ?_, fun x y hx hy => ?_, fun x y z hx hy hz => ?_, fun x hx => ?_, fun x hx => ?_, fun x y z hx hy hz => ?_, fun x y z hx hy hz => ?_⟩
  · exact eqB_of (g ("same", 1, 1) (by unfold rulesL; simp) [x] (mem1 hx))
  · exact eqB_of (g ("order", 2, 2) (by unfold rulesL; simp) [x, y] (mem2 hx hy))
  · exact eqB_of (g ("group", 3, 3) (by unfold rulesL; simp) [x, y, z] (mem3 hx hy hz))
  · have := g ("one", 4, 1) (by unfold rulesL; simp) [x] (mem1 hx)
    exact eqB_of (Bool.and_eq_true_iff.mp this).1
  · have := g ("one", 4, 1) (by unfold rulesL; simp) [x] (mem1 hx)
    exact eqB_of (Bool.and_eq_true_iff.mp this).2
  · exact eqB_of (g ("times", 6, 3) (by unfold rulesL; simp) [x, y, z] (mem3 hx hy hz))
  · exact eqB_of (g ("left", 7, 3) (by unfold rulesL; simp) [x, y, z] (mem3 hx hy hz))
def pw (T : Tb) (x : Nat) : Nat → Nat
  | 0 => T.o
  | k + 1 => T.pro (pw T x k) x
def tt (T : Tb) (x : Nat) : Nat → Nat
  | 0 => T.o
  | k + 1 => T.sum (tt T x k) (pw T x (k + 1))
def ff (T : Tb) (x : Nat) : Nat → Nat
  | 0 => T.o
  | k + 1 => T.sum T.o (T.pro x (ff T x k))
section
variable {T : Tb} {x : Nat}
theorem pw_lt (h : T.WF) (hx : x < T.n) : ∀ k, pw T x k < T.n
  | 0 => h.o
  | k + 1 => pL h (pw_lt h hx k) hx
theorem tt_lt (h : T.WF) (hx : x < T.n) : ∀ k, tt T x k < T.n
  | 0 => h.o
  | k + 1 => sL h (tt_lt h hx k) (pw_lt h hx (k + 1))
theorem pw_comm (h : T.WF) (s : Semi T) (hx : x < T.n) : ∀ k, T.pro x (pw T x k) = pw T x (k + 1)
  | 0 => by show T.pro x T.o = T.pro T.o x; rw [s.one1 x hx, s.one2 x hx]
  | k + 1 => by
    show T.pro x (T.pro (pw T x k) x) = T.pro (pw T x (k + 1)) x
    rw [← s.tas _ _ _ hx (pw_lt h hx k) hx, pw_comm h s hx k]
theorem tt_step (h : T.WF) (s : Semi T) (hx : x < T.n) : ∀ k, T.sum T.o (T.pro x (tt T x k)) = tt T x (k + 1)
  | 0 => by
    show T.sum T.o (T.pro x T.o) = T.sum T.o (T.pro T.o x)
    rw [s.one1 x hx, s.one2 x hx]
  | k + 1 => by
    show T.sum T.o (T.pro x (T.sum (tt T x k) (pw T x (k + 1)))) = T.sum (tt T x (k + 1)) (pw T x (k + 2))
    rw [s.left _ _ _ hx (tt_lt h hx k) (pw_lt h hx (k + 1)), ← s.assoc _ _ _ h.o (pL h hx (tt_lt h hx k)) (pL h hx (pw_lt h hx (k + 1))), tt_step h s hx k, pw_comm h s hx (k + 1)]
theorem ff_tt (h : T.WF) (s : Semi T) (hx : x < T.n) : ∀ k, ff T x k = tt T x k
  | 0 => rfl
  | k + 1 => by
    show T.sum T.o (T.pro x (ff T x k)) = _
    rw [ff_tt h s hx k, tt_step h s hx k]
/-- they go up -/
theorem tt_up (h : T.WF) (s : Semi T) (hx : x < T.n) (k : Nat) : T.sum (tt T x k) (tt T x (k + 1)) = tt T x (k + 1) := by
  show T.sum (tt T x k) (T.sum (tt T x k) (pw T x (k + 1))) = T.sum (tt T x k) (pw T x (k + 1))
  rw [← s.assoc _ _ _ (tt_lt h hx k) (tt_lt h hx k) (pw_lt h hx (k + 1)), s.idem _ (tt_lt h hx k)]
theorem tt_le (h : T.WF) (s : Semi T) (hx : x < T.n) (i : Nat) : ∀ d, T.sum (tt T x i) (tt T x (i + d)) = tt T x (i + d)
  | 0 => s.idem _ (tt_lt h hx i)
  | d + 1 => by
    have a := tt_lt h hx i
    have b := tt_lt h hx (i + d)
    have c := tt_lt h hx (i + d + 1)
    have e := tt_up h s hx (i + d)
    show T.sum (tt T x i) (tt T x (i + d + 1)) = tt T x (i + d + 1)
    rw [← e, ← s.assoc _ _ _ a b c, tt_le h s hx i d]
theorem tt_mid (h : T.WF) (s : Semi T) (hx : x < T.n) {i j : Nat} (hij : i < j) (e : tt T x i = tt T x j) : tt T x i = tt T x (i + 1) := by
  have h1 := tt_up h s hx i
  have h2 := tt_le h s hx (i + 1) (j - (i + 1))
  rw [show i + 1 + (j - (i + 1)) = j by omega, ← e, s.comm _ _ (tt_lt h hx (i + 1)) (tt_lt h hx i), h1] at h2
  exact h2.symm
theorem tt_stay (h : T.WF) (s : Semi T) (hx : x < T.n) {k : Nat} (e : tt T x k = tt T x (k + 1)) : ∀ d, tt T x (k + d) = tt T x k
  | 0 => rfl
  | d + 1 => by
    have ih := tt_stay h s hx e d
    show tt T x (k + d + 1) = _
    rw [← tt_step h s hx (k + d), ih, tt_step h s hx k, ← e]
theorem pig : ∀ (n : Nat) (l : List Nat), l.Nodup → (∀ x ∈ l, x < n) → l.length ≤ n
  | 0, [], _, _ => Nat.le_refl _
  | 0, x :: _, _, h => absurd (h x (by simp)) (by omega)
  | n + 1, l, nd, h => by
    by_cases hm : n ∈ l
    · have := pig n (l.erase n) (nd.erase n) fun x hx => by
        have := (nd.mem_erase_iff).mp hx
        have := h x this.2
        omega
      rw [List.length_erase_of_mem hm] at this
      omega
    · have := pig n l nd fun x hx => by
        have h1 := h x hx
        have : x ≠ n := fun e => hm (e ▸ hx)
        omega
      omega
theorem stars (h : T.WF) (s : Semi T) (hx : x < T.n) : ff T x T.n = tt T x 8 := by
  rw [ff_tt h s hx]
  have h6 := h.n6
  by_cases hk : ∃ k, k < T.n ∧ tt T x k = tt T x (k + 1)
  · obtain ⟨k, hk, e⟩ := hk
    have a := tt_stay h s hx e (T.n - k)
    have b := tt_stay h s hx e (8 - k)
    rw [show k + (T.n - k) = T.n by omega] at a
    rw [show k + (8 - k) = 8 by omega] at b
    rw [a, b]
  · exfalso
    have nd : ((List.range (T.n + 1)).map (tt T x)).Nodup := by
      show List.Pairwise (· ≠ ·) _
      rw [List.pairwise_map]
      refine List.Pairwise.imp_of_mem ?_ (List.pairwise_lt_range (n := T.n + 1))
      intro i j hi hj hij e
      have := List.mem_range.mp hj
      exact hk ⟨i, by omega, tt_mid h s hx hij e⟩
    have := pig T.n _ nd fun y hy => by
      obtain ⟨k, _, rfl⟩ := List.mem_map.mp hy
      exact tt_lt h hx k
    rw [List.length_map, List.length_range] at this
    omega
end
end K17

/-! the law's star; the object's methods -/
namespace K17
open PySem PySem.Spec PyProof.Rows L2 DD
section
variable [Iota] [CA]
theorem law_star {T : Tb} (h : T.WF) {x : Nat} (hx : x < T.n) : m__law_star [T.d, .int (x : Nat)] = .ok (.int (tt T x 8 : Nat)) := by
  obtain ⟨ρ', f1, s4, f2⟩ := forRng_inv (tg := tgN 4) (body := b__law_star_0) (n := 8) (fun k ρ => ∃ s4 : Sl, ρ = [.fz T.d, .fz (.int (x : Nat)), .fz (.int (tt T x k : Nat)), .fz (.int (pw T x k : Nat)), s4])
    (fun k hk ρ ⟨s4, e⟩ => by
      subst e
      refine ⟨[.fz T.d, .fz (.int (x : Nat)), .fz (.int (tt T x (k + 1) : Nat)), .fz (.int (pw T x (k + 1) : Nat)), .fz (.int (k : Nat))], ?_, _, rfl⟩
      rw [tgN_ap, R.okb]
      simp only [List.set_cons_succ, List.set_cons_zero]
      unfold b__law_star_0
      have hp := pw_lt h hx k
      have ht := tt_lt h hx k
      have hp1 := pw_lt h hx (k + 1)
      refine seq_go' (set_of (d := .int (pw T x (k + 1) : Nat)) ?_) (set_of (d := .int (tt T x (k + 1) : Nat)) ?_)
      · simp only [eBin_ap, eVar_s, eVar_z, eC_ap, R.okb, t1, p1 h hp, p2 h hp hx]
        rfl
      · simp only [List.set_cons_succ, List.set_cons_zero, eBin_ap, eVar_s, eVar_z, eC_ap, R.okb, t0, s1 h ht, s2 h ht hp1]
        rfl)
    [.fz T.d, .fz (.int (x : Nat)), .fz (.int (T.o : Nat)), .fz (.int (T.o : Nat)), .un] ⟨.un, rfl⟩
  subst f2
  unfold m__law_star
  rw [runD2]
  unfold b__law_star
  simp only [List.replicate]
  refine seq_go (set_of (d := .int (T.o : Nat)) (by simp only [eBin_ap, eVar_z, eC_ap, R.okb, t3])) ?_
  simp only [List.set_cons_succ, List.set_cons_zero]
  refine seq_go (set_of (d := .int (T.o : Nat)) (by simp only [eBin_ap, eVar_z, eC_ap, R.okb, t3])) ?_
  simp only [List.set_cons_succ, List.set_cons_zero]
  refine seq_go (ρ' := _) ((sFor_rng 8 (i := 8) (by simp only [eCons_ap, eC_ap, eNil_ap, R.okb]) rfl (by omega)).trans f1) (ret_out rfl)
/-- the object -/
def objT (T : Tb) (w : Nat) : Ob := .ins CA.Table ["_sums", "_products", "_one", "_weights"] [matD T.s, matD T.p, .int (T.o : Nat), .ref w]
theorem fld_of {S : Store} {m w : Nat} {T : Tb} (hm : S[m]? = some (objT T w)) {f : Str} {d : D} {fe : En → SM D} {ρ : En} (h : fe ρ S = .ok (.ref m) S) (hd : ((["_sums", "_products", "_one", "_weights"] : List Str).zip [matD T.s, matD T.p, .int (T.o : Nat), .ref w]).lookup f = some d) : zFld [CA.Table] f fe ρ S = .ok d S := by
  refine (smb_of h).trans ?_
  unfold fldS
  dsimp only
  rw [hm]
  unfold objT
  dsimp only
  rw [if_pos (by simp), hd]
theorem ix_frz {S : Store} {x y d : D} (hx : isDct x S = false) (hr : ∀ n, x ≠ .ref n) (h : dIx x y = .ok d) : ixD x y S = .ok d S := by
  unfold ixD
  rw [if_neg (by rw [hx]; decide)]
  have e : ixS x y S = SM.lift (dIx x y) S := by
    unfold ixS
    cases x <;> first | rfl | exact absurd rfl (hr _)
  rw [e, h]
  rfl
theorem zop_of {g : D → D → SM D} {a b : En → SM D} {ρ : En} {S : Store} {x y : D} {r : RS D} (h1 : a ρ S = .ok x S) (h2 : b ρ S = .ok y S) (h3 : g x y S = r) : zOp g a b ρ S = r := (smb_of h1).trans ((smb_of h2).trans h3)
theorem one_ok {S : Store} {m w : Nat} {T : Tb} (hm : S[m]? = some (objT T w)) : m_Table_one [.ref m] S = .ok (.int (T.o : Nat)) S := by
  unfold m_Table_one
  refine runS_rt rfl ?_
  unfold b_Table_one
  exact yret_of (fld_of hm (zL_of rfl) rfl)
theorem plus_ok {S : Store} {m w : Nat} {T : Tb} (h : T.WF) (hm : S[m]? = some (objT T w)) {x y : Nat} (hx : x < T.n) (hy : y < T.n) : m_Table_plus [.ref m, .int (x : Nat), .int (y : Nat)] S = .ok (.int (T.sum x y : Nat)) S := by
  unfold m_Table_plus
  refine runS_rt rfl ?_
  unfold b_Table_plus
  exact yret_of (zop_of (zop_of (fld_of hm (zL_of rfl) rfl) (zL_of rfl) (ix_frz rfl (fun n e => by cases e) (s1 h hx))) (zL_of rfl) (ix_frz rfl (fun n e => by cases e) (s2 h hx hy)))
theorem times_ok {S : Store} {m w : Nat} {T : Tb} (h : T.WF) (hm : S[m]? = some (objT T w)) {x y : Nat} (hx : x < T.n) (hy : y < T.n) : m_Table_times [.ref m, .int (x : Nat), .int (y : Nat)] S = .ok (.int (T.pro x y : Nat)) S := by
  unfold m_Table_times
  refine runS_rt rfl ?_
  unfold b_Table_times
  exact yret_of (zop_of (zop_of (fld_of hm (zL_of rfl) rfl) (zL_of rfl) (ix_frz rfl (fun n e => by cases e) (p1 h hx))) (zL_of rfl) (ix_frz rfl (fun n e => by cases e) (p2 h hx hy)))
theorem ixd_T {S : Store} {w : Nat} {ks : List (List Key)} {ds : List D} (hw : S[w]? = some (.dT ks ds)) {k : List Key} {kd d : D} (hk : keyT kd = .ok k) (hd : lookG ks ds k = some d) : ixD (.ref w) kd S = .ok d S := by
  have h1 : isDct (.ref w) S = true := by unfold isDct; dsimp only; rw [hw]
  have h2 : dgetS (.ref w) kd S = .ok (some d) := by unfold dgetS; dsimp only; rw [hw]; dsimp only; rw [hk, R.okb, hd]
  unfold ixD
  rw [if_pos h1, h2]
theorem letter_ok {S : Store} {m w : Nat} {T : Tb} (hm : S[m]? = some (objT T w)) {ks : List (List Key)} {ds : List D} (hw : S[w]? = some (.dT ks ds)) {k : List Key} {kd d : D} (hk : keyT kd = .ok k) (hd : lookG ks ds k = some d) : m_Table_letter [.ref m, kd] S = .ok d S := by
  unfold m_Table_letter
  refine runS_rt rfl ?_
  unfold b_Table_letter
  refine yret_of (zop_of (fld_of hm (zL_of rfl) rfl) (zL_of rfl) ?_)
  exact ixd_T hw hk hd
theorem meth_of {S : Store} {m w : Nat} {T : Tb} (hm : S[m]? = some (objT T w)) {nm : Str} {mm : List D → SM D} {o : En → SM D} {f : En → SM (List D)} {ρ : En} {ds : List D} {r : RS D} (hn : nm ∈ (["one", "letter", "plus", "times", "star"] : List Str)) (h1 : o ρ S = .ok (.ref m) S) (h2 : f ρ S = .ok ds S) (h3 : mm (.ref m :: ds) S = r) : zMeth [CA.Table] nm (fun _ => mm) o f ρ S = r := by
  refine (smb_of h1).trans ?_
  have hc : clsS [CA.Table] nm (.ref m) S = .ok CA.Table S := by
    unfold clsS
    dsimp only
    rw [hm]
    unfold objT
    dsimp only
    refine if_pos ⟨by simp, ?_⟩
    simp only [List.mem_cons, List.not_mem_nil, or_false] at hn
    rcases hn with rfl | rfl | rfl | rfl | rfl <;> rfl
  exact (smb_of hc).trans ((smb_of h2).trans h3)
theorem star_ok {S : Store} {m w : Nat} {T : Tb} (h : T.WF) (hm : S[m]? = some (objT T w)) {x : Nat} (hx : x < T.n) : m_Table_star [.ref m, .int (x : Nat)] S = .ok (.int (ff T x T.n : Nat)) S := by
  have hlt : ∀ k, ff T x k < T.n := fun k => by
    induction k with
    | zero => exact h.o
    | succ k ih => exact sL h h.o (pL h hx ih)
  have loop : ∀ (l : List D) (k : Nat) (s3 : Sl), ∃ s3', forS (tgN 3) b_Table_star_0 l [.fz (.ref m), .fz (.int (x : Nat)), .fz (.int (ff T x k : Nat)), s3] S = .nx [.fz (.ref m), .fz (.int (x : Nat)), .fz (.int (ff T x (k + l.length) : Nat)), s3'] S := by
    intro l
    induction l with
    | nil => intro k s3; exact ⟨s3, rfl⟩
    | cons d l ih =>
      intro k s3
      obtain ⟨s3', e⟩ := ih (k + 1) (.fz d)
      refine ⟨s3', (forS_nx (ρ1 := [.fz (.ref m), .fz (.int (x : Nat)), .fz (.int (ff T x k : Nat)), .fz d]) rfl (ρ2 := [.fz (.ref m), .fz (.int (x : Nat)), .fz (.int (ff T x (k + 1) : Nat)), .fz d]) (S2 := S) ?_).trans ?_⟩
      · unfold b_Table_star_0
        exact yset_of (d := .int (ff T x (k + 1) : Nat)) (meth_of hm (by simp) (zL_of rfl) (zcons_of (fld_of hm (zL_of rfl) rfl) (zcons_of (meth_of hm (by simp) (zL_of rfl) (zL_of rfl) (times_ok h hm hx (hlt k))) rfl)) (plus_ok h hm h.o (pL h hx (hlt k))))
      · rw [List.length_cons, show k + (l.length + 1) = k + 1 + l.length by omega]
        exact e
  obtain ⟨s3', e⟩ := loop (T.s.map rowD) 0 .un
  rw [matD_len, h.s.1, Nat.zero_add] at e
  unfold m_Table_star
  refine runS_rt rfl ?_
  unfold b_Table_star
  simp only [List.map_cons, List.map_nil, List.cons_append, List.nil_append, List.length_cons, List.length_nil, List.replicate]
  refine (yseq_go (yset_of (fld_of hm (zL_of rfl) rfl))).trans ?_
  simp only [List.set_cons_succ, List.set_cons_zero]
  refine (yseq_go ((yfor_of (ds := T.s.map rowD) (S' := S) ?_).trans e)).trans (ylift_rt (ret_of rfl))
  exact (smb_of (fld_of (d := matD T.s) hm (zL_of rfl) rfl)).trans rfl
end
end K17

/-! the object made, and asked -/
namespace K17
open PySem PySem.Spec PyProof.Rows L2 DD
theorem lookG_at {κ : Type} [DecidableEq κ] : ∀ {ks : List κ} {ds : List D} {i : Nat} {k : κ} {d : D}, ks.Nodup → ks[i]? = some k → ds[i]? = some d → lookG ks ds k = some d
  | [], ds, i, k, d, _, h, _ => by simp at h
  | k0 :: ks, [], i, k, d, _, _, h => by simp at h
  | k0 :: ks, d0 :: ds, 0, k, d, _, h1, h2 => by
    simp at h1 h2
    subst h1; subst h2
    simp [lookG]
  | k0 :: ks, d0 :: ds, i + 1, k, d, nd, h1, h2 => by
    rw [List.getElem?_cons_succ] at h1 h2
    have hn := List.nodup_cons.mp nd
    have ne : ¬ k0 = k := fun e => hn.1 (e ▸ List.mem_of_getElem? h1)
    have := lookG_at hn.2 h1 h2
    unfold lookG at this ⊢
    rw [List.zip_cons_cons, List.find?_cons]
    rw [show decide ((k0, d0).1 = k) = false from decide_eq_false ne]
    exact this
theorem copy_all {κ : Type} [DecidableEq κ] {ks : List κ} {ds : List D} (nd : ks.Nodup) (hl : ks.length = ds.length) (hs : ds.length < 16777216) : ∀ (r i : Nat), i + r = ks.length → copyG ks ds (ks.drop i) (ks.take i) (ds.take i) = .ok (ks, ds)
  | 0, i, h => by
    have : i = ks.length := by omega
    subst this
    rw [List.drop_length, List.take_length, hl, List.take_length]; rfl
  | r + 1, i, h => by
    have hi : i < ks.length := by omega
    have hi2 : i < ds.length := by omega
    have e1 := List.getElem?_eq_getElem hi
    have e2 := List.getElem?_eq_getElem hi2
    rw [List.drop_eq_getElem_cons hi]
    show (match lookG ks ds ks[i] with
      | some d => guardR (decide ((ds.take i).length < 16777216)) >>= fun _ => copyG ks ds (ks.drop (i + 1)) (putKk (ks.take i) ks[i]) (DD.putAt (ks.take i) (ds.take i) ks[i] d)
      | none => R.bad) = _
    rw [lookG_at nd e1 e2]
    dsimp only
    have nm : ks[i] ∉ ks.take i := fun hm => by
      have := (List.take_append_drop i ks).symm ▸ nd
      rw [List.nodup_append] at this
      exact this.2.2 _ hm _ (by rw [List.drop_eq_getElem_cons hi]; exact List.mem_cons_self) rfl
    rw [show decide ((ds.take i).length < 16777216) = true from decide_eq_true (by rw [List.length_take]; omega)]
    show (R.ok () >>= fun _ => _) = _
    rw [@R.okb ⟨[]⟩]
    unfold putKk DD.putAt
    rw [if_neg nm, if_neg nm]
    have t1 : ks.take i ++ [ks[i]] = ks.take (i + 1) := (List.take_succ_eq_append_getElem hi).symm
    have t2 : ds.take i ++ [ds[i]] = ds.take (i + 1) := (List.take_succ_eq_append_getElem hi2).symm
    rw [t1, t2]
    exact copy_all nd hl hs r (i + 1) (by omega)
section
variable [Iota] [CA]
theorem yfld_of {f : Str} {o v : En → SM D} {ρ : En} {S S1 : Store} {d : D} {m : Nat} {ns : List Str} {ds : List D} (h1 : v ρ S = .ok d S1) (h2 : o ρ S1 = .ok (.ref m) S1) (hm : S1[m]? = some (.ins CA.Table ns ds)) (hn : ns.length < 1000) : yFld [CA.Table] f o v ρ S = .nx ρ (S1.set m (.ins CA.Table (putNs f ns) (putVs f d ns ds))) := by
  unfold yFld
  refine (sm_of h1).trans ((sm_of h2).trans ?_)
  unfold setS
  dsimp only
  rw [hm]
  dsimp only
  rw [if_pos ⟨by simp, hn⟩]
theorem make_ok {T : Tb} {S : Store} {hh : Nat} {ks : List (List Key)} {ds : List D} (hS : S[hh]? = some (.dT ks ds)) (nd : ks.Nodup) (hl : ks.length = ds.length) (hs : ds.length < 16777216) {fa : En → SM (List D)} {ρ : En} (hf : fa ρ S = .ok [T.d, .ref hh] S) :
    zMake CA.Table m_Table___init__ fa ρ S = .ok (.ref S.length) (S ++ [objT T (S.length + 1), .dT ks ds]) := by
  have hlt : hh < S.length := (List.getElem?_eq_some_iff.mp hS).1
  have gm : ∀ (a : Ob) (r : List Ob), (S ++ (a :: r))[S.length]? = some a := fun a r => by simp
  have sm' : ∀ (a b : Ob) (r : List Ob), (S ++ (a :: r)).set S.length b = S ++ (b :: r) := fun a b r => by
    rw [List.set_append_right _ _ (Nat.le_refl _), Nat.sub_self]; rfl
  have init : m_Table___init__ [.ref S.length, T.d, .ref hh] (S ++ [.ins CA.Table [] []]) = .ok .non (S ++ [objT T (S.length + 1), .dT ks ds]) := by
    unfold m_Table___init__
    refine runS_nx (ρ' := [.fz (.ref S.length), .fz T.d, .fz (.ref hh), .un]) rfl ?_
    unfold b_Table___init__
    simp only [List.map_cons, List.map_nil, List.cons_append, List.nil_append, List.length_cons, List.length_nil, List.replicate]
    refine (yseq_go (yfld_of (d := matD T.s) (zL_of (by simp only [eBin_ap, eVar_s, eVar_z, eC_ap, R.okb, t0])) (zL_of rfl) (gm _ []) (by decide))).trans ?_
    rw [sm' _ _ []]
    refine (yseq_go (yfld_of (d := matD T.p) (zL_of (by simp only [eBin_ap, eVar_s, eVar_z, eC_ap, R.okb, t1])) (zL_of rfl) (gm _ []) (by decide))).trans ?_
    rw [sm' _ _ []]
    refine (yseq_go (yfld_of (d := .int (T.o : Nat)) (zL_of (by simp only [eBin_ap, eVar_s, eVar_z, eC_ap, R.okb, t3])) (zL_of rfl) (gm _ []) (by decide))).trans ?_
    rw [sm' _ _ []]
    have hc := copy_all nd hl hs ks.length 0 (by omega)
    rw [List.drop_zero, List.take_zero, List.take_zero] at hc
    have hS2 : ∀ a : Ob, (S ++ [a])[hh]? = some (.dT ks ds) := fun a => by rw [List.getElem?_append_left hlt]; exact hS
    have hcp : ∀ a : Ob, eCopyT 3 2 [.fz (.ref S.length), .fz T.d, .fz (.ref hh), .un] (S ++ [a]) = .ok (.ref (S.length + 1)) (S ++ [a, Ob.dT ks ds]) := fun a => by
      show (match (S ++ [a])[hh]? with
        | some (.dT ks ds) => (match copyG ks ds ks [] [] with
          | .ok (ks2, ds2) => RS.ok (D.ref (S ++ [a]).length) ((S ++ [a]) ++ [Ob.dT ks2 ds2])
          | _ => .bad)
        | _ => .bad) = _
      rw [hS2]
      dsimp only
      rw [hc]
      dsimp only
      rw [List.length_append, List.append_assoc]
      rfl
    refine (yfld_of (hcp _) (zL_of rfl) (gm _ _) (by decide)).trans ?_
    rw [sm']
    rfl
  unfold zMake
  refine (smb_of hf).trans ?_
  refine (smb_of (m := SM.new (.ins CA.Table [] [])) (a := D.ref S.length) (S' := S ++ [Ob.ins CA.Table [] []]) rfl).trans ?_
  refine (smb_of init).trans ?_
  refine (smb_of (m := isN .non) (a := ()) (S' := S ++ [objT T (S.length + 1), Ob.dT ks ds]) rfl).trans rfl
theorem zcall_of {g : List D → R D} {fa : En → SM (List D)} {ρ : En} {S S' : Store} {ds : List D} {d : D} (h : fa ρ S = .ok ds S') (h2 : g ds = .ok d) : zCall g fa ρ S = .ok d S' := by
  refine (smb_of h).trans ?_
  show SM.lift (g ds) S' = _
  rw [h2]; rfl
theorem same_z {fa : En → SM (List D)} {ρ : En} {S : Store} {d : D} (h : fa ρ S = .ok [d, d] S) (hp : Pl 12 d) : zNot (zTst (zCall (m__law_same 12) fa)) ρ S = .ok false S := znot_of (b := true) (ztst_of (zcall_of h (same_refl 12 d hp)))
theorem forS_same {tg : D → En → R En} {body : En → SO} {S : Store} {st : Sl → En} : ∀ (l : List D) (s : Sl), (∀ d ∈ l, ∀ s, ∃ ρ1 s', tg d (st s) = .ok ρ1 ∧ body ρ1 S = .nx (st s') S) → ∃ s', forS tg body l (st s) S = .nx (st s') S
  | [], s, _ => ⟨s, rfl⟩
  | d :: l, s, h => by
    obtain ⟨ρ1, s', h1, h2⟩ := h d (by simp) s
    obtain ⟨s2, e⟩ := forS_same l s' fun x hx => h x (by simp [hx])
    exact ⟨s2, (forS_nx h1 h2).trans e⟩
theorem key_two {k : List Key} (h : ∃ a b : Str, k = [.inr a, .inr b]) : keyT (.tup (k.map keyD)) = .ok k := by
  obtain ⟨a, b, rfl⟩ := h
  rfl
theorem holds_ok {T : Tb} (h : T.WF) (sr : Semi T) {S : Store} {m w hh : Nat} {ks : List (List Key)} {l : List Nat} (hw : WOk T.n ks l) (h1 : S[m]? = some (objT T w)) (h2 : S[w]? = some (.dT ks (nums l))) (h3 : S[hh]? = some (.dT ks (nums l))) : m__law_holds [.ref m, T.d, .ref hh] S = .ok (.bl true) S := by
  have h6 := h.n6
  unfold m__law_holds
  refine runS_rt rfl ?_
  unfold b__law_holds
  simp only [List.map_cons, List.map_nil, List.cons_append, List.nil_append, List.length_cons, List.length_nil, List.replicate]
  refine (yseq_go (yif_f (zor_f (znot_of (b := true) (ztst_of ?_)) (same_z (d := .int (T.o : Nat)) (zcons_of (zL_of (by simp only [eBin_ap, eVar_s, eVar_z, eC_ap, R.okb, t3])) (zcons_of (meth_of h1 (by simp) (zL_of rfl) rfl (one_ok h1)) rfl)) trivial)))).trans ?_
  · unfold zIsI
    refine (smb_of (zL_of (a := D.ref m) rfl)).trans ((smb_of (zL_of (a := D.clr CA.Algebra) rfl)).trans ?_)
    show isO [CA.Table] [] (.ref m) S = _
    unfold isO
    dsimp only
    rw [h1]
    unfold objT
    dsimp only
    rw [if_pos (by simp)]
  -- the labels
  obtain ⟨s3, e3⟩ := forS_same (tg := tgN 3) (body := b__law_holds_0) (S := S) (st := fun s => [.fz (.ref m), .fz T.d, .fz (.ref hh), s, .un, .un]) (ks.map fun k => .tup (k.map keyD)) .un (fun d hd s => by
    obtain ⟨k, hk, rfl⟩ := List.mem_map.mp hd
    obtain ⟨i, hi, e⟩ := List.mem_iff_getElem.mp hk
    have hil : i < l.length := by rw [← hw.len]; exact hi
    have kT := key_two (hw.two k hk)
    have lk : lookG ks (nums l) k = some (.int (l[i] : Nat)) := lookG_at hw.nd (by rw [← e]; exact List.getElem?_eq_getElem hi) (nums_get (List.getElem?_eq_getElem hil))
    refine ⟨_, .fz (.tup (k.map keyD)), rfl, ?_⟩
    unfold b__law_holds_0
    refine (yif_f (same_z (d := .int (l[i] : Nat)) (zcons_of (zop_of (zL_of (a := D.ref hh) rfl) (zL_of (a := D.tup (k.map keyD)) rfl) (ixd_T h3 kT lk)) (zcons_of (meth_of h1 (by simp) (zL_of rfl) (zL_of rfl) (letter_ok h1 h2 kT lk)) rfl)) trivial)).trans rfl)
  have hitems : (zItems (zKeys (zL (eVar 2))) : En → SM (List D)) [.fz (.ref m), .fz T.d, .fz (.ref hh), .un, .un, .un] S = .ok (ks.map fun k => .tup (k.map keyD)) S := by
    refine (smb_of (a := .lst (ks.map fun k => .tup (k.map keyD))) (S' := S) ?_).trans rfl
    refine (smb_of (zL_of (a := D.ref hh) rfl)).trans ?_
    unfold keysS
    dsimp only
    rw [h3]
  refine (yseq_go ((yfor_of hitems).trans e3)).trans ?_
  -- the stars, the cells
  obtain ⟨ρ', S', e4, s4, s5, e5, e6⟩ := forS_rng (tg := tgN 4) (body := b__law_holds_2) (n := T.n) (fun _ ρ S' => ∃ s4 s5 : Sl, ρ = [.fz (.ref m), .fz T.d, .fz (.ref hh), s3, s4, s5] ∧ S = S')
    (fun x hx ρ S' ⟨s4, s5, a1, a2⟩ => by
      subst a1; subst a2
      obtain ⟨ρ2, S2, e7, s6, e8, e9⟩ := forS_rng (tg := tgN 5) (body := b__law_holds_1) (n := T.n) (fun _ ρ S' => ∃ s5 : Sl, ρ = [.fz (.ref m), .fz T.d, .fz (.ref hh), s3, .fz (.int (x : Nat)), s5] ∧ S = S')
        (fun y hy ρ S' ⟨s5, a1, a2⟩ => by
          subst a1; subst a2
          refine ⟨_, [.fz (.ref m), .fz T.d, .fz (.ref hh), s3, .fz (.int (x : Nat)), .fz (.int (y : Nat))], S, rfl, ?_, _, rfl, rfl⟩
          unfold b__law_holds_1
          refine (yif_f (same_z (d := .lst [.int (T.sum x y : Nat), .int (T.pro x y : Nat)]) (zcons_of (zL_of ?_) (zcons_of (zlst_of (zcons_of (meth_of h1 (by simp) (zL_of rfl) (zL_of rfl) (plus_ok h h1 hx hy)) (zcons_of (meth_of h1 (by simp) (zL_of rfl) (zL_of rfl) (times_ok h h1 hx hy)) rfl)) (by simp)) rfl)) ⟨by simp, fun d hd => ?_⟩)).trans rfl
          · simp only [List.set_cons_succ, List.set_cons_zero, toLst_ap, eLst_ap, eCons_ap, eBin_ap, eNil_ap, eVar_s, eVar_z, eC_ap, R.okb, t0, t1, s1 h hx, p1 h hx, s2 h hx hy, p2 h hx hy]
            rfl
          · simp only [List.mem_cons, List.not_mem_nil, or_false] at hd
            rcases hd with rfl | rfl <;> trivial)
        [.fz (.ref m), .fz T.d, .fz (.ref hh), s3, .fz (.int (x : Nat)), s5] S ⟨_, rfl, rfl⟩
      subst e8; subst e9
      refine ⟨_, _, S, rfl, ?_, .fz (.int (x : Nat)), s6, rfl, rfl⟩
      unfold b__law_holds_2
      have st := star_ok h h1 hx
      rw [stars h sr hx] at st
      refine (yseq_go (yif_f (same_z (d := .int (tt T x 8 : Nat)) (zcons_of (zL_of ?_) (zcons_of (meth_of h1 (by simp) (zL_of rfl) (zL_of rfl) st) rfl)) trivial))).trans ?_
      · simp only [List.set_cons_succ, List.set_cons_zero, eCall_ap, eCons_ap, eNil_ap, eVar_s, eVar_z, R.okb]
        exact law_star h hx
      refine (yfor_rng T.n (i := ((T.n : Nat) : Int)) ?_ rfl (by omega)).trans e7
      simp only [List.set_cons_succ, List.set_cons_zero, eCons_ap, eCall_ap, eBin_ap, eNil_ap, eVar_s, eVar_z, eC_ap, R.okb, t0, len_t0 h])
    [.fz (.ref m), .fz T.d, .fz (.ref hh), s3, .un, .un] S ⟨_, _, rfl, rfl⟩
  subst e5; subst e6
  refine (yseq_go ((yfor_rng T.n (i := ((T.n : Nat) : Int)) ?_ rfl (by omega)).trans e4)).trans (ylift_rt (ret_of rfl))
  simp only [eCons_ap, eCall_ap, eBin_ap, eNil_ap, eVar_s, eVar_z, eC_ap, R.okb, t0, len_t0 h]
end
end K17

/-! the law -/
namespace K17
open PySem PySem.Spec PyProof.Rows L2 DD
section
variable [Iota] [CA]
theorem forS_inv {tg : D → En → R En} {body : En → SO} (P : En → Store → Prop) : ∀ (l : List D), (∀ d ∈ l, ∀ ρ S, P ρ S → ∃ ρ1 ρ' S', tg d ρ = .ok ρ1 ∧ body ρ1 S = .nx ρ' S' ∧ P ρ' S') → ∀ ρ S, P ρ S → ∃ ρ' S', forS tg body l ρ S = .nx ρ' S' ∧ P ρ' S'
  | [], _, ρ, S, hp => ⟨ρ, S, rfl, hp⟩
  | d :: l, h, ρ, S, hp => by
    obtain ⟨ρ1, ρ2, S2, e1, e2, p2⟩ := h d (by simp) ρ S hp
    obtain ⟨ρ3, S3, e3, p3⟩ := forS_inv P l (fun x hx => h x (by simp [hx])) ρ2 S2 p2
    exact ⟨ρ3, S3, (forS_nx e1 e2).trans e3, p3⟩
def MadeOk (S : Store) (made : List D) : Prop := ∀ d ∈ made, ∃ (T : Tb) (m w hh : Nat) (ks : List (List Key)) (l : List Nat), d = .lst [.ref m, T.d, .ref hh] ∧ T.WF ∧ Semi T ∧ WOk T.n ks l ∧ S[m]? = some (objT T w) ∧ S[w]? = some (.dT ks (nums l)) ∧ S[hh]? = some (.dT ks (nums l))
theorem MadeOk.mono {S S' : Store} {made : List D} (h : MadeOk S made) (e : ∀ (j : Nat) (a : Ob), S[j]? = some a → S'[j]? = some a) : MadeOk S' made := fun d hd => by
  obtain ⟨T, m, w, hh, ks, l, a, b, c, f, g1, g2, g3⟩ := h d hd
  exact ⟨T, m, w, hh, ks, l, a, b, c, f, e _ _ g1, e _ _ g2, e _ _ g3⟩
/-- the handed weights are changed behind the object's back -/
theorem spoil {T : Tb} (h : T.WF) {ks : List (List Key)} (nd : ks.Nodup) (two : ∀ k ∈ ks, ∃ a b : Str, k = [.inr a, .inr b]) (hs : ks.length < 1000) {S0 : Store} {hn : Nat} {r : Sl → En} (r9 : ∀ s, eVar 9 (r s) = .ok (.ref hn)) (r8 : ∀ s, eVar 8 (r s) = .ok (.int (T.n : Nat))) (rt : ∀ s d, (r s).set 10 (.fz d) = r (.fz d)) (r10 : ∀ d, eVar 10 (r (.fz d)) = .ok d) :
    ∀ s l, l.length = ks.length → S0[hn]? = some (.dT ks (nums l)) → ∃ s' S', forS (tgN 10) b_law_1 (ks.map fun k => .tup (k.map keyD)) (r s) S0 = .nx (r s') S' ∧ ∀ j, j ≠ hn → S'[j]? = S0[j]? := by
  intro s l hl h0
  obtain ⟨ρ', S', e1, s', e2, e3, _⟩ := forS_inv (tg := tgN 10) (body := b_law_1) (fun ρ S' => ∃ s', ρ = r s' ∧ (∀ j, j ≠ hn → S'[j]? = S0[j]?) ∧ ∃ l', l'.length = ks.length ∧ S'[hn]? = some (.dT ks (nums l')))
    (ks.map fun k => .tup (k.map keyD)) (fun d hd ρ S1 ⟨s1, e, q, l', hl', hS⟩ => by
      subst e
      obtain ⟨k, hk, rfl⟩ := List.mem_map.mp hd
      obtain ⟨i, hi, ei⟩ := List.mem_iff_getElem.mp hk
      have hil : i < l'.length := by rw [hl']; exact hi
      have kT := key_two (two k hk)
      have lk : lookG ks (nums l') k = some (.int (l'[i] : Nat)) := lookG_at nd (by rw [← ei]; exact List.getElem?_eq_getElem hi) (nums_get (List.getElem?_eq_getElem hil))
      have md : dMod (.int (((l'[i] : Nat) : Int) + 1)) (.int (T.n : Nat)) = .ok (.int (((l'[i] + 1) % T.n : Nat) : Int)) := by
        have n1 := h.n1
        have := modN (l'[i] + 1) n1
        rw [show ((l'[i] + 1 : Nat) : Int) = ((l'[i] : Nat) : Int) + 1 by omega] at this
        exact this
      refine ⟨r (.fz (.tup (k.map keyD))), r (.fz (.tup (k.map keyD))), S1.set hn (.dT ks (nums (DD.putAt ks l' k ((l'[i] + 1) % T.n)))), by rw [tgN_ap, rt], ?_, _, rfl, fun j hj => ?_, DD.putAt ks l' k ((l'[i] + 1) % T.n), ?_, ?_⟩
      · unfold b_law_1 yPut2
        refine (sm_of (a := D.int (((l'[i] + 1) % T.n : Nat) : Int)) (S' := S1) (zbin_of (zcall_of (d := .int (((l'[i] : Nat) : Int) + 1)) (zcons_of (zbin_of (zop_of (zL_of (r9 _)) (zL_of (r10 _)) (ixd_T hS kT lk)) (zL_of (a := D.int 1) rfl) rfl) rfl) rfl) (zL_of (r8 _)) md)).trans ?_
        refine (sm_of (zL_of (r9 _))).trans ((sm_of (zL_of (r10 _))).trans ?_)
        unfold putS2
        dsimp only
        rw [hS]
        dsimp only
        rw [kT]
        dsimp only
        rw [if_pos (by rw [nums_len, hl']; omega), putAt_nums]
        unfold putKk
        rw [if_pos hk]
      · rw [List.getElem?_set_ne (Ne.symm hj)]; exact q j hj
      · have := putAt_len (l := l') hl'.symm k ((l'[i] + 1) % T.n)
        rw [← this]
        unfold putKk
        rw [if_pos hk]
      · rw [List.getElem?_set_self (List.getElem?_eq_some_iff.mp hS).1])
    (r s) S0 ⟨s, rfl, fun j _ => rfl, l, hl, h0⟩
  exact ⟨s', S', by rw [e1, e2], e3⟩
theorem pl_bad {T : Tb} (o : Option (Str × List Nat)) (ho : badIn T rulesL = o) : Pl 12 (badD o) := by
  cases o with
  | none => exact ⟨by decide, fun d hd => by cases hd⟩
  | some u =>
    obtain ⟨r, t⟩ := u
    have ht : t.length ≤ 3 := by
      have key : ∀ rs : List (Str × Nat × Nat), (∀ r ∈ rs, r.2.2 ≤ 3) → badIn T rs = some (r, t) → t.length ≤ 3 := by
        intro rs
        induction rs with
        | nil => intro _ h; cases h
        | cons q rs ih =>
          intro hr h
          unfold badIn at h
          split at h
          · rename_i u hb
            cases h
            have := (allT_ok (List.mem_of_find?_eq_some hb)).1
            have := hr q (by simp)
            omega
          · exact ih (fun x hx => hr x (by simp [hx])) h
      exact key rulesL (fun r hr => of_decide_eq_true (List.all_eq_true.mp rules3 r hr)) ho
    refine ⟨by show 2 < 1000000; omega, fun d hd => ?_⟩
    simp only [List.mem_cons, List.not_mem_nil, or_false] at hd
    rcases hd with rfl | rfl
    · trivial
    · refine ⟨by rw [nums_len]; omega, fun d hd => ?_⟩
      obtain ⟨x, _, rfl⟩ := List.mem_map.mp hd
      trivial
end
end K17

/-! one turn of the law; the law -/
namespace K17
open PySem PySem.Spec PyProof.Rows L2 DD
section
variable [Iota] [CA]
def lEn (ns : List Int) (made : List D) (s2 s3 s4 s5 s6 s7 s8 s9 s10 : Sl) : En := [.fz (.rol (ns.map D.int)), .ow made, s2, s3, s4, s5, s6, s7, s8, s9, s10, .un]
theorem bd_sub {ds es : List Int} (hb : Bd ds) (h : ∀ x ∈ es, x ∈ ds) : Bd es := fun d hd => hb d (h d hd)
theorem znil_of {ρ : En} {S : Store} : zNil ρ S = .ok [] S := rfl
theorem bad_tru (o : Option (Str × List Nat)) : truD (badD o) = .ok o.isSome := by cases o <;> rfl
theorem check_turn {B : Tb} (h : B.WF) {S : Store} {ns : List Int} {made : List D} {s2 s3 s4 s5 s6 s8 s9 s10 : Sl} : b_law_0 (lEn ns made s2 s3 s4 s5 s6 (.fz (.lst [B.d, badD (badIn B rulesL)])) s8 s9 s10) S = .nx (lEn ns made s2 s3 s4 s5 s6 (.fz (.lst [B.d, badD (badIn B rulesL)])) s8 s9 s10) S := by
  unfold b_law_0 lEn
  refine (yif_f (same_z (d := badD (badIn B rulesL)) (zcons_of (zL_of ?_) (zcons_of (zcallS_of (zL_of (a := [B.d]) ?_) (judged_ok h S)) rfl)) (pl_bad _ rfl))).trans rfl
  · have : dIx (.lst [B.d, badD (badIn B rulesL)]) (.int 1) = .ok (badD (badIn B rulesL)) := rfl
    simp only [eBin_ap, eVar_s, eVar_z, eC_ap, R.okb, this]
  · have : dIx (.lst [B.d, badD (badIn B rulesL)]) (.int 0) = .ok B.d := rfl
    simp only [eCons_ap, eBin_ap, eNil_ap, eVar_s, eVar_z, eC_ap, R.okb, this]
theorem checks {T B : Tb} (h : T.WF) (hB : B.WF) {S : Store} {ns : List Int} {made : List D} {s2 s3 s7 s8 s9 s10 : Sl} :
    ∃ s7', yFor (zL (fun ρ => (toLst (eLst (eCons (toLst (eLst (eCons (eVar 4) (eCons (eVar 6) eNil)))) (eCons (toLst (eLst (eCons (eVar 5) (eCons (eCall m__law_broken (eCons (eVar 5) eNil)) eNil)))) (eCons (toLst (eLst (eCons (eVar 4) (eCons (eVar 6) eNil)))) eNil))))) ρ >>= items)) (tgN 7) b_law_0 (lEn ns made s2 s3 (.fz T.d) (.fz B.d) (.fz (badD (badIn T rulesL))) s7 s8 s9 s10) S
      = .nx (lEn ns made s2 s3 (.fz T.d) (.fz B.d) (.fz (badD (badIn T rulesL))) s7' s8 s9 s10) S := by
  have src : (zL (fun ρ => (toLst (eLst (eCons (toLst (eLst (eCons (eVar 4) (eCons (eVar 6) eNil)))) (eCons (toLst (eLst (eCons (eVar 5) (eCons (eCall m__law_broken (eCons (eVar 5) eNil)) eNil)))) (eCons (toLst (eLst (eCons (eVar 4) (eCons (eVar 6) eNil)))) eNil))))) ρ >>= items) : En → SM (List D)) (lEn ns made s2 s3 (.fz T.d) (.fz B.d) (.fz (badD (badIn T rulesL))) s7 s8 s9 s10) S = .ok [.lst [T.d, badD (badIn T rulesL)], .lst [B.d, badD (badIn B rulesL)], .lst [T.d, badD (badIn T rulesL)]] S := by
    refine zL_of ?_
    have g2 : ∀ a b : D, guardR (small [a, b].length) = R.ok () := fun _ _ => rfl
    have g3 : ∀ a b c : D, guardR (small [a, b, c].length) = R.ok () := fun _ _ _ => rfl
    unfold lEn
    simp only [toLst_ap, eLst_ap, eCons_ap, eCall_ap, eNil_ap, eVar_s, eVar_z, R.okb, law_broken hB, g2, g3, items_l]
  refine ⟨.fz (.lst [T.d, badD (badIn T rulesL)]), (yfor_of src).trans ?_⟩
  refine (forS_nx rfl (check_turn h)).trans ((forS_nx rfl (check_turn hB)).trans ((forS_nx rfl (check_turn h)).trans rfl))
theorem turn {ns : List Int} {k : Nat} (hk : k < 3) {S : Store} {made : List D} (hm : MadeOk S made) (hml : made.length ≤ k) {s2 s3 s4 s5 s6 s7 s8 s9 s10 : Sl} :
    ∃ (made' : List D) (S' : Store) (t3 t4 t5 t6 t7 t8 t9 t10 : Sl), b_law_2 (lEn ns made (.fz (.int (k : Nat))) s3 s4 s5 s6 s7 s8 s9 s10) S = .nx (lEn ns made' (.fz (.int (k : Nat))) t3 t4 t5 t6 t7 t8 t9 t10) S' ∧ MadeOk S' made' ∧ made'.length ≤ k + 1 := by
  obtain ⟨c, hc⟩ := law_cell ns k
  obtain ⟨ds, hd, hl, hb⟩ := law_draws (c + 7919 * (k : Int)) (n := 30) (by omega)
  have b1 : Bd (ds.take 10) := bd_sub hb fun x hx => List.mem_of_mem_take hx
  have b2 : Bd ((ds.drop 10).take 10) := bd_sub hb fun x hx => List.mem_of_mem_drop (List.mem_of_mem_take hx)
  have b3 : Bd ((ds.drop 20).take 10) := bd_sub hb fun x hx => List.mem_of_mem_drop (List.mem_of_mem_take hx)
  have l1 : (ds.take 10).length = 10 := by rw [List.length_take]; omega
  have l2 : ((ds.drop 10).take 10).length = 10 := by rw [List.length_take, List.length_drop]; omega
  have l3 : ((ds.drop 20).take 10).length = 10 := by rw [List.length_take, List.length_drop]; omega
  obtain ⟨T, hT, eT⟩ := law_table l1 b1
  obtain ⟨B, hB, eB⟩ := law_bent hT l2 b2
  have eK := law_broken hT
  have c1 : dSl (.lst (ds.map D.int)) none (some 10) = .ok (.lst ((ds.take 10).map D.int)) := by rw [dSl_l, show (10 : Int) = ((10 : Nat) : Int) from rfl, cutD_to, List.map_take]
  have c2 : dSl (.lst (ds.map D.int)) (some 10) (some 20) = .ok (.lst (((ds.drop 10).take 10).map D.int)) := by rw [dSl_l, show (10 : Int) = ((10 : Nat) : Int) from rfl, show (20 : Int) = ((20 : Nat) : Int) from rfl, cutD_nn, List.map_take, List.map_drop]
  have c3 : dSl (.lst (ds.map D.int)) (some 20) (some 30) = .ok (.lst (((ds.drop 20).take 10).map D.int)) := by rw [dSl_l, show (20 : Int) = ((20 : Nat) : Int) from rfl, show (30 : Int) = ((30 : Nat) : Int) from rfl, cutD_nn, List.map_take, List.map_drop]
  have mu : dMul (.int 7919) (.int ((k : Nat) : Int)) = .ok (.int (7919 * (k : Int))) := dMul_l (by decide)
  have hd' : m__law_draws [.int (c + 7919 * (k : Int)), .int 30] = .ok (.lst (ds.map D.int)) := hd
  obtain ⟨s7', ec⟩ := checks hT hB (S := S) (ns := ns) (made := made) (s2 := .fz (.int (k : Nat))) (s3 := .fz (.lst (ds.map D.int))) (s7 := s7) (s8 := s8) (s9 := s9) (s10 := s10)
  have start : ∀ {r : RO}, (yIf (zL (bNot (fun ρ => (eVar 6) ρ >>= truD))) (ySeq (yLift (sSet 8 (eCall dLen (eCons (eBin dIx (eVar 4) (eC (.int 0))) eNil))))
      (ySeq (ySet 9 (zCallS m__law_weights (zL (eCons (eVar 8) (eCons (eSl (eVar 3) (oSome (eC (.int 20))) (oSome (eC (.int 30)))) eNil)))))
      (ySeq (yAppO 1 (zLst (zCons (zMake CA.Table m_Table___init__ (zL (eCons (eVar 4) (eCons (eVar 9) eNil)))) (zCons (zL (eVar 4)) (zCons (zCallS m__law_weights (zL (eCons (eVar 8) (eCons (eSl (eVar 3) (oSome (eC (.int 20))) (oSome (eC (.int 30)))) eNil)))) zNil)))))
      (yFor (zItems (zKeys (zL (eVar 9)))) (tgN 10) b_law_1)))) yNext) (lEn ns made (.fz (.int (k : Nat))) (.fz (.lst (ds.map D.int))) (.fz T.d) (.fz B.d) (.fz (badD (badIn T rulesL))) s7' s8 s9 s10) S = r → b_law_2 (lEn ns made (.fz (.int (k : Nat))) s3 s4 s5 s6 s7 s8 s9 s10) S = r := fun {r} hr => by
    unfold b_law_2
    refine (yseq_go (ylift_nx (set_of (d := .lst (ds.map D.int)) ?_))).trans ?_
    · unfold lEn
      simp only [eCall_ap, eCons_ap, eBin_ap, eNil_ap, eVar_s, eVar_z, eC_ap, R.okb, hc, mu, dAdd_i, hd']
    refine (yseq_go (ylift_nx (set_of (d := T.d) ?_))).trans ?_
    · unfold lEn
      simp only [List.set_cons_succ, List.set_cons_zero, eCall_ap, eCons_ap, eSl_ap, eNil_ap, oNone_ap, oSome_ap, asI_i, eVar_s, eVar_z, eC_ap, R.okb, c1, eT]
    refine (yseq_go (ylift_nx (set_of (d := B.d) ?_))).trans ?_
    · unfold lEn
      simp only [List.set_cons_succ, List.set_cons_zero, eCall_ap, eCons_ap, eSl_ap, eNil_ap, oNone_ap, oSome_ap, asI_i, eVar_s, eVar_z, eC_ap, R.okb, c2, eB]
    refine (yseq_go (ylift_nx (set_of (d := badD (badIn T rulesL)) ?_))).trans ?_
    · unfold lEn
      simp only [List.set_cons_succ, List.set_cons_zero, eCall_ap, eCons_ap, eNil_ap, eVar_s, eVar_z, R.okb, eK]
    unfold lEn at ec hr ⊢
    simp only [List.set_cons_succ, List.set_cons_zero]
    exact (yseq_go ec).trans hr
  have tru : ∀ (b : Bool), (badIn T rulesL).isSome = b → (zL (bNot (fun ρ => (eVar 6) ρ >>= truD)) : En → SM Bool) (lEn ns made (.fz (.int (k : Nat))) (.fz (.lst (ds.map D.int))) (.fz T.d) (.fz B.d) (.fz (badD (badIn T rulesL))) s7' s8 s9 s10) S = .ok (!b) S := fun b hb => by
    refine zL_of ?_
    unfold lEn
    simp only [bNot_ap, eVar_s, eVar_z, R.okb, bad_tru, hb]
  cases hbad : badIn T rulesL with
  | some u =>
    have := tru true (by rw [hbad]; rfl)
    exact ⟨made, S, _, _, _, _, _, _, _, _, start ((yif_f this).trans rfl), hm, by omega⟩
  | none =>
    have hn := tru false (by rw [hbad]; rfl)
    have sr := semi_of hbad
    have n1 := hT.n1
    obtain ⟨tn, ew, etn⟩ := law_weights n1 l3 b3 S
    obtain ⟨w, hw5⟩ := wF_ok n1 ((ds.drop 20).take 10) tn
    have htn : tn < 5 := by
      have h5b : ((ds.drop 20).take 10).getD 0 0 % 5 < 5 := Int.emod_lt_of_pos _ (by decide)
      omega
    generalize hks : (wF T.n ((ds.drop 20).take 10) tn).1 = ks at ew w hw5
    generalize hws : (wF T.n ((ds.drop 20).take 10) tn).2 = l at ew w
    have mk := make_ok (T := T) (S := S ++ [.dT ks (nums l)]) (hh := S.length) (ks := ks) (ds := nums l) (by simp) w.nd (by rw [nums_len]; exact w.len) (by rw [nums_len, ← w.len]; omega)
      (fa := zL (eCons (eVar 4) (eCons (eVar 9) eNil))) (ρ := lEn ns made (.fz (.int (k : Nat))) (.fz (.lst (ds.map D.int))) (.fz T.d) (.fz B.d) (.fz (badD (badIn T rulesL))) s7' (.fz (.int (T.n : Nat))) (.fz (.ref S.length)) s10) (zL_of rfl)
    obtain ⟨tn2, ew2, etn2⟩ := law_weights n1 l3 b3 (S ++ [.dT ks (nums l)] ++ [objT T ((S ++ [Ob.dT ks (nums l)]).length + 1), .dT ks (nums l)])
    rw [show tn2 = tn by omega, hks, hws] at ew2
    generalize hS3 : S ++ [Ob.dT ks (nums l)] ++ [objT T ((S ++ [Ob.dT ks (nums l)]).length + 1), Ob.dT ks (nums l)] ++ [Ob.dT ks (nums l)] = S3 at ew2
    have g0 : S3[S.length]? = some (.dT ks (nums l)) := by rw [← hS3]; simp
    have gm : S3[S.length + 1]? = some (objT T (S.length + 2)) := by rw [← hS3]; simp [List.getElem?_append]
    have gw : S3[S.length + 2]? = some (.dT ks (nums l)) := by rw [← hS3]; simp [List.getElem?_append]
    have gh : S3[S.length + 3]? = some (.dT ks (nums l)) := by rw [← hS3]; simp [List.getElem?_append]
    have gold : ∀ (j : Nat) (a : Ob), S[j]? = some a → S3[j]? = some a := fun j a hj => by
      have hlt := (List.getElem?_eq_some_iff.mp hj).1
      rw [← hS3, List.append_assoc, List.append_assoc, List.getElem?_append_left hlt]; exact hj
    obtain ⟨s10', S4, e4, q4⟩ := spoil hT w.nd w.two (by omega) (S0 := S3) (hn := S.length)
      (r := fun s => lEn ns (made ++ [.lst [.ref (S.length + 1), T.d, .ref (S.length + 3)]]) (.fz (.int (k : Nat))) (.fz (.lst (ds.map D.int))) (.fz T.d) (.fz B.d) (.fz (badD (badIn T rulesL))) s7' (.fz (.int (T.n : Nat))) (.fz (.ref S.length)) s)
      (fun s => rfl) (fun s => rfl) (fun s d => rfl) (fun d => rfl) s10 l w.len.symm g0
    refine ⟨made ++ [.lst [.ref (S.length + 1), T.d, .ref (S.length + 3)]], S4, .fz (.lst (ds.map D.int)), .fz T.d, .fz B.d, .fz (badD (badIn T rulesL)), s7', .fz (.int (T.n : Nat)), .fz (.ref S.length), s10', start ((yif_t hn).trans ?_), ?_, ?_⟩
    · have ln := len_t0 hT
      refine (yseq_go (ylift_nx (set_of (d := .int (T.n : Nat)) ?_))).trans ?_
      · unfold lEn
        simp only [eCall_ap, eCons_ap, eBin_ap, eNil_ap, eVar_s, eVar_z, eC_ap, R.okb, t0, ln]
      have wa : ∀ (s9 s10 : Sl) (SS : Store), (zL (eCons (eVar 8) (eCons (eSl (eVar 3) (oSome (eC (.int 20))) (oSome (eC (.int 30)))) eNil)) : En → SM (List D)) (lEn ns made (.fz (.int (k : Nat))) (.fz (.lst (ds.map D.int))) (.fz T.d) (.fz B.d) (.fz (badD (badIn T rulesL))) s7' (.fz (.int (T.n : Nat))) s9 s10) SS = .ok [.int (T.n : Nat), .lst (((ds.drop 20).take 10).map D.int)] SS := fun s9 s10 SS => by
        refine zL_of ?_
        unfold lEn
        simp only [eCons_ap, eSl_ap, eNil_ap, oSome_ap, asI_i, eVar_s, eVar_z, eC_ap, R.okb, c3]
      refine (yseq_go (yset_of (zcallS_of (wa _ _ S) ew))).trans ?_
      have app : yAppO 1 (zLst (zCons (zMake CA.Table m_Table___init__ (zL (eCons (eVar 4) (eCons (eVar 9) eNil)))) (zCons (zL (eVar 4)) (zCons (zCallS m__law_weights (zL (eCons (eVar 8) (eCons (eSl (eVar 3) (oSome (eC (.int 20))) (oSome (eC (.int 30)))) eNil)))) zNil)))) (lEn ns made (.fz (.int (k : Nat))) (.fz (.lst (ds.map D.int))) (.fz T.d) (.fz B.d) (.fz (badD (badIn T rulesL))) s7' (.fz (.int (T.n : Nat))) (.fz (.ref S.length)) s10) (S ++ [.dT ks (nums l)])
          = .nx (lEn ns (made ++ [.lst [.ref (S.length + 1), T.d, .ref (S.length + 3)]]) (.fz (.int (k : Nat))) (.fz (.lst (ds.map D.int))) (.fz T.d) (.fz B.d) (.fz (badD (badIn T rulesL))) s7' (.fz (.int (T.n : Nat))) (.fz (.ref S.length)) s10) S3 := by
        unfold yAppO
        have hz := zcallS_of (wa (.fz (.ref S.length)) s10 (S ++ [Ob.dT ks (nums l)] ++ [objT T ((S ++ [Ob.dT ks (nums l)]).length + 1), Ob.dT ks (nums l)])) ew2
        have hlst := zlst_of (zcons_of mk (zcons_of (zL_of (e := eVar 4) (a := T.d) rfl) (zcons_of hz znil_of))) (by simp)
        refine (sm_of (m := SM.lift (eOwn 1 (lEn ns made (.fz (.int (k : Nat))) (.fz (.lst (ds.map D.int))) (.fz T.d) (.fz B.d) (.fz (badD (badIn T rulesL))) s7' (.fz (.int (T.n : Nat))) (.fz (.ref S.length)) s10))) (a := made) (S' := S ++ [.dT ks (nums l)]) rfl).trans ?_
        refine (sm_of hlst).trans ?_
        rw [if_pos (by omega)]
        unfold lEn
        simp only [List.set_cons_succ, List.set_cons_zero, List.length_append, List.length_cons, List.length_nil]
      refine (yseq_go app).trans ?_
      have hitems : (zItems (zKeys (zL (eVar 9))) : En → SM (List D)) (lEn ns (made ++ [.lst [.ref (S.length + 1), T.d, .ref (S.length + 3)]]) (.fz (.int (k : Nat))) (.fz (.lst (ds.map D.int))) (.fz T.d) (.fz B.d) (.fz (badD (badIn T rulesL))) s7' (.fz (.int (T.n : Nat))) (.fz (.ref S.length)) s10) S3 = .ok (ks.map fun k => .tup (k.map keyD)) S3 := by
        refine (smb_of (a := .lst (ks.map fun k => .tup (k.map keyD))) (S' := S3) ?_).trans rfl
        refine (smb_of (zL_of (a := D.ref S.length) rfl)).trans ?_
        unfold keysS
        dsimp only
        rw [g0]
      exact (yfor_of hitems).trans e4
    · have g4 : ∀ (j : Nat), j ≠ S.length → ∀ a : Ob, S3[j]? = some a → S4[j]? = some a := fun j hj a h => by rw [q4 j hj]; exact h
      intro d hd
      rcases List.mem_append.mp hd with hd | hd
      · refine (hm.mono (S' := S4) fun j a hj => ?_) d hd
        have hlt := (List.getElem?_eq_some_iff.mp hj).1
        exact g4 j (by omega) a (gold j a hj)
      · rw [List.mem_singleton.mp hd]
        exact ⟨T, S.length + 1, S.length + 2, S.length + 3, ks, l, rfl, hT, sr, w, g4 _ (by omega) _ gm, g4 _ (by omega) _ gw, g4 _ (by omega) _ gh⟩
    · rw [List.length_append]; simp; omega
end
end K17

/-! the law is true -/
namespace K17
open PySem PySem.Spec PyProof.Rows L2 DD
section
variable [Iota] [CA]
theorem compS_true {tg : D → En → R En} {elt : En → SM D} {ρ : En} {S : Store} : ∀ (l : List D), (∀ d ∈ l, ∃ ρ1, tg d ρ = .ok ρ1 ∧ elt ρ1 S = .ok (.bl true) S) → compS tg bYes elt ρ l S = .ok (l.map fun _ => D.bl true) S
  | [], _ => rfl
  | d :: l, h => by
    obtain ⟨ρ1, h1, h2⟩ := h d (by simp)
    have ih := compS_true l fun x hx => h x (by simp [hx])
    have hx : noX (elt ρ1) S = .ok (.bl true) S := by unfold noX; rw [h2]
    show (SM.lift (tg d ρ) >>= fun ρ1 => SM.lift (bYes ρ1) >>= fun b => if b = true then noX (elt ρ1) >>= fun x => compS tg bYes elt ρ l >>= fun xs => SM.ret (x :: xs) else compS tg bYes elt ρ l) S = _
    refine (smb_of (a := ρ1) (S' := S) (by rw [h1]; rfl)).trans ?_
    refine (smb_of (a := true) (S' := S) rfl).trans ?_
    rw [if_pos rfl]
    refine (smb_of hx).trans ((smb_of ih).trans rfl)
theorem all_true (l : List D) : dL1 dAll [.lst (l.map fun _ => D.bl true)] = .ok (.bl true) := by
  show dAll (l.map fun _ => D.bl true) = _
  rw [dAll_map (fun _ => true)]
  simp
theorem law_run (ns : List Int) : ∃ S', m_law [.rol (ns.map D.int)] [] = .ok (.bl true) S' := by
  obtain ⟨ρ', S', e1, made, s2, s3, s4, s5, s6, s7, s8, s9, s10, e2, hm, hl⟩ := forS_rng (tg := tgN 2) (body := b_law_2) (n := 3)
    (fun k ρ S => ∃ (made : List D) (s2 s3 s4 s5 s6 s7 s8 s9 s10 : Sl), ρ = lEn ns made s2 s3 s4 s5 s6 s7 s8 s9 s10 ∧ MadeOk S made ∧ made.length ≤ k)
    (fun k hk ρ S ⟨made, s2, s3, s4, s5, s6, s7, s8, s9, s10, e, hm, hl⟩ => by
      subst e
      obtain ⟨made', S', t3, t4, t5, t6, t7, t8, t9, t10, q1, q2, q3⟩ := turn hk hm hl (ns := ns) (s2 := s2) (s3 := s3) (s4 := s4) (s5 := s5) (s6 := s6) (s7 := s7) (s8 := s8) (s9 := s9) (s10 := s10)
      exact ⟨_, _, S', rfl, q1, made', _, _, _, _, _, _, _, _, _, rfl, q2, q3⟩)
    (lEn ns [] .un .un .un .un .un .un .un .un .un) [] ⟨[], .un, .un, .un, .un, .un, .un, .un, .un, .un, rfl, (fun d hd => by cases hd), Nat.le_refl _⟩
  subst e2
  refine ⟨S', ?_⟩
  unfold m_law
  refine runS_rt rfl ?_
  unfold b_law
  simp only [List.map_cons, List.map_nil, List.cons_append, List.nil_append, List.length_cons, List.length_nil, List.replicate]
  refine (yseq_go (ylift_nx (setO_of (ds := []) rfl))).trans ?_
  simp only [List.set_cons_succ, List.set_cons_zero]
  refine (yseq_go ((yfor_rng 3 (i := 3) (by simp only [eCons_ap, eC_ap, eNil_ap, R.okb]) rfl (by omega)).trans e1)).trans ?_
  unfold yFrz
  have hf : frz 1 (lEn ns made s2 s3 s4 s5 s6 s7 s8 s9 s10) = [.fz (.rol (ns.map D.int)), .fz (.lst made), s2, s3, s4, s5, s6, s7, s8, s9, s10, .un] := rfl
  rw [hf]
  have hcomp : (eComp2 (zL (fun ρ => (eVar 1) ρ >>= items)) [11] (tgN 11) bYes (zCallS m__law_holds (zL (eCons (eBin dIx (eVar 11) (eC (.int 0))) (eCons (eBin dIx (eVar 11) (eC (.int 1))) (eCons (eBin dIx (eVar 11) (eC (.int 2))) eNil))))) : En → SM D) [.fz (.rol (ns.map D.int)), .fz (.lst made), s2, s3, s4, s5, s6, s7, s8, s9, s10, .un] S' = .ok (.lst (made.map fun _ => D.bl true)) S' := by
    unfold eComp2
    refine (smb_of (a := made) (S' := S') (zL_of rfl)).trans ?_
    have g : (noOwn [.fz (.rol (ns.map D.int)), .fz (.lst made), s2, s3, s4, s5, s6, s7, s8, s9, s10, .un] [11] && decide (made.length < 16777216)) = true := by
      rw [decide_eq_true (by omega)]; rfl
    refine (smb_of (a := ()) (S' := S') (by rw [g]; rfl)).trans ?_
    refine (smb_of (compS_true made fun d hd => ?_)).trans rfl
    obtain ⟨T, m, w, hh, ks, l, rfl, hT, sr, hw, g1, g2, g3⟩ := hm d hd
    refine ⟨_, rfl, zcallS_of (zL_of (a := [.ref m, T.d, .ref hh]) ?_) (holds_ok hT sr hw g1 g2 g3)⟩
    rfl
  exact yret_of (zcall_of (zcons_of hcomp rfl) (all_true made))
end
theorem law_true (ca : CA) : ∀ ns : List Int, ns.length ≤ 63 → ∃ S', @m_law ca [.rol (ns.map D.int)] [] = .ok (.bl true) S' := fun ns _ => @law_run ⟨[]⟩ ca ns
end K17

namespace K17
open PySem PySem.Spec PyProof.Rows L2 DD
theorem all_mk {l : PySem.W.OpenLaw} {w : World} {K : PySem.W.Frag} {h : Heap} {mg : Str → Option Value} {fa : Addr} (X : K.In h) (G : h.Ns mainGlobals mg) (hfa : mg "law" = some (.ref fa))
    (hlaw : ∀ (ca : CA) (ns : List Int), ns.length ≤ 63 → ∃ S', @m_law ca [.rol (ns.map D.int)] [] = .ok (.bl true) S') {c_Algebra c_BadChance c_BadFlow c_BadTable c_BadWeight c_Clash c_Fault c_NotSound c_Table c_TooMany : Addr}
    {f0 : Addr} {od0 an0 : Option Addr} {sl0 : Array (Option Value)} {oc0 kV0 dc0 pm0 ct0 : Value}
    {cc0 cda0 : Addr} {ccl0 ccl10 : Value} {ccd0 ccd10 : Option Addr} {ccs0 ccs10 : Array (Option Value)} {cvs0 : Array Value} {cfl0 : Str} {cft0 : Tok}
    {f1 : Addr} {od1 an1 : Option Addr} {sl1 : Array (Option Value)} {oc1 kV1 dc1 pm1 cd1 ct1 : Value}
    {f2 : Addr} {od2 an2 : Option Addr} {sl2 : Array (Option Value)} {oc2 kV2 dc2 pm2 cd2 ct2 : Value}
    {f3 : Addr} {od3 an3 : Option Addr} {sl3 : Array (Option Value)} {oc3 kV3 dc3 pm3 cd3 ct3 : Value}
    {f4 : Addr} {od4 an4 : Option Addr} {sl4 : Array (Option Value)} {oc4 kV4 dc4 pm4 cd4 ct4 : Value}
    {f5 : Addr} {od5 an5 : Option Addr} {sl5 : Array (Option Value)} {oc5 kV5 dc5 pm5 cd5 ct5 : Value}
    {f6 : Addr} {od6 an6 : Option Addr} {sl6 : Array (Option Value)} {oc6 kV6 dc6 pm6 cd6 ct6 : Value}
    {f7 : Addr} {od7 an7 : Option Addr} {sl7 : Array (Option Value)} {oc7 kV7 dc7 pm7 cd7 ct7 : Value}
    {f8 : Addr} {od8 an8 : Option Addr} {sl8 : Array (Option Value)} {oc8 kV8 dc8 pm8 cd8 ct8 : Value}
    {f9 : Addr} {od9 an9 : Option Addr} {sl9 : Array (Option Value)} {oc9 kV9 dc9 pm9 cd9 ct9 : Value}
    {f10 : Addr} {od10 an10 : Option Addr} {sl10 : Array (Option Value)} {oc10 kV10 dc10 pm10 cd10 ct10 : Value}
    {f11 : Addr} {od11 an11 : Option Addr} {sl11 : Array (Option Value)} {oc11 kV11 dc11 pm11 cd11 ct11 : Value}
    {f12 : Addr} {od12 an12 : Option Addr} {sl12 : Array (Option Value)} {oc12 kV12 dc12 pm12 cd12 ct12 : Value}
    {f13 : Addr} {od13 an13 : Option Addr} {sl13 : Array (Option Value)} {oc13 kV13 dc13 pm13 cd13 ct13 : Value}
    {f14 : Addr} {od14 an14 : Option Addr} {sl14 : Array (Option Value)} {oc14 kV14 dc14 pm14 cd14 ct14 : Value}
    {f15 : Addr} {od15 an15 : Option Addr} {sl15 : Array (Option Value)} {oc15 kV15 dc15 pm15 cd15 ct15 : Value}
    {f16 : Addr} {od16 an16 : Option Addr} {sl16 : Array (Option Value)} {oc16 kV16 dc16 pm16 cd16 ct16 : Value}
    {f17 : Addr} {od17 an17 : Option Addr} {sl17 : Array (Option Value)} {oc17 kV17 dc17 pm17 cd17 ct17 : Value}
    {f18 : Addr} {od18 an18 : Option Addr} {sl18 : Array (Option Value)} {oc18 kV18 dc18 pm18 cd18 ct18 : Value}
    {f19 : Addr} {od19 an19 : Option Addr} {sl19 : Array (Option Value)} {oc19 kV19 dc19 pm19 cd19 ct19 : Value}
    {f20 : Addr} {od20 an20 : Option Addr} {sl20 : Array (Option Value)} {oc20 kV20 dc20 pm20 cd20 ct20 : Value}
    {f21 : Addr} {od21 an21 : Option Addr} {sl21 : Array (Option Value)} {oc21 kV21 dc21 pm21 cd21 ct21 : Value}
    {f22 : Addr} {od22 an22 : Option Addr} {sl22 : Array (Option Value)} {oc22 kV22 dc22 pm22 cd22 ct22 : Value}
    {f23 : Addr} {od23 an23 : Option Addr} {sl23 : Array (Option Value)} {oc23 kV23 dc23 pm23 cd23 ct23 : Value}
    {f24 : Addr} {od24 an24 : Option Addr} {sl24 : Array (Option Value)} {oc24 kV24 dc24 pm24 cd24 ct24 : Value}
    {f25 : Addr} {od25 an25 : Option Addr} {sl25 : Array (Option Value)} {oc25 kV25 dc25 pm25 cd25 ct25 : Value}
    {f26 : Addr} {od26 an26 : Option Addr} {sl26 : Array (Option Value)} {oc26 kV26 dc26 pm26 cd26 ct26 : Value}
    {f27 : Addr} {od27 an27 : Option Addr} {sl27 : Array (Option Value)} {oc27 kV27 dc27 pm27 cd27 ct27 : Value}
    {xn0 xq0 : Str} {xN0 : Addr} {xbs0 xbm0 : List Value} {xsn0 : List Str} {xsub0 : List Value} {xab0 : Bool} {xcol0 : Option Bool} {xdd0 : Option Addr} {y0_0 y1_0 y2_0 y3_0 y5_0 : Option Value}
    {a_RULES : Addr}
    {q_RULES_0 : Addr}
    {q_RULES_1 : Addr}
    {q_RULES_2 : Addr}
    {q_RULES_3 : Addr}
    {q_RULES_4 : Addr}
    {q_RULES_5 : Addr}
    {q_RULES_6 : Addr}
    {q_RULES_7 : Addr}
    {q_RULES_8 : Addr}
    {od_q_RULES : Option Addr} {n_q_RULES : Nat} {sl_q_RULES : Array (Option Value)}
    {tq_RULES_0_0 : Tok}
    {tq_RULES_0_1 : Tok}
    {od_q_RULES_0 : Option Addr} {n_q_RULES_0 : Nat} {sl_q_RULES_0 : Array (Option Value)}
    {tq_RULES_1_0 : Tok}
    {tq_RULES_1_1 : Tok}
    {od_q_RULES_1 : Option Addr} {n_q_RULES_1 : Nat} {sl_q_RULES_1 : Array (Option Value)}
    {tq_RULES_2_0 : Tok}
    {tq_RULES_2_1 : Tok}
    {od_q_RULES_2 : Option Addr} {n_q_RULES_2 : Nat} {sl_q_RULES_2 : Array (Option Value)}
    {tq_RULES_3_0 : Tok}
    {tq_RULES_3_1 : Tok}
    {od_q_RULES_3 : Option Addr} {n_q_RULES_3 : Nat} {sl_q_RULES_3 : Array (Option Value)}
    {tq_RULES_4_0 : Tok}
    {tq_RULES_4_1 : Tok}
    {od_q_RULES_4 : Option Addr} {n_q_RULES_4 : Nat} {sl_q_RULES_4 : Array (Option Value)}
    {tq_RULES_5_0 : Tok}
    {tq_RULES_5_1 : Tok}
    {od_q_RULES_5 : Option Addr} {n_q_RULES_5 : Nat} {sl_q_RULES_5 : Array (Option Value)}
    {tq_RULES_6_0 : Tok}
    {tq_RULES_6_1 : Tok}
    {od_q_RULES_6 : Option Addr} {n_q_RULES_6 : Nat} {sl_q_RULES_6 : Array (Option Value)}
    {tq_RULES_7_0 : Tok}
    {tq_RULES_7_1 : Tok}
    {od_q_RULES_7 : Option Addr} {n_q_RULES_7 : Nat} {sl_q_RULES_7 : Array (Option Value)}
    {tq_RULES_8_0 : Tok}
    {tq_RULES_8_1 : Tok}
    {od_q_RULES_8 : Option Addr} {n_q_RULES_8 : Nat} {sl_q_RULES_8 : Array (Option Value)}
    (xC_Algebra : PySem.W.nsIn K mainGlobals "Algebra" = some (some (.ref c_Algebra)))
    (xC_BadChance : PySem.W.nsIn K mainGlobals "BadChance" = some (some (.ref c_BadChance)))
    (xC_BadFlow : PySem.W.nsIn K mainGlobals "BadFlow" = some (some (.ref c_BadFlow)))
    (xC_BadTable : PySem.W.nsIn K mainGlobals "BadTable" = some (some (.ref c_BadTable)))
    (xC_BadWeight : PySem.W.nsIn K mainGlobals "BadWeight" = some (some (.ref c_BadWeight)))
    (xC_Clash : PySem.W.nsIn K mainGlobals "Clash" = some (some (.ref c_Clash)))
    (xC_Fault : PySem.W.nsIn K mainGlobals "Fault" = some (some (.ref c_Fault)))
    (xC_NotSound : PySem.W.nsIn K mainGlobals "NotSound" = some (some (.ref c_NotSound)))
    (xC_Table : PySem.W.nsIn K mainGlobals "Table" = some (some (.ref c_Table)))
    (xC_TooMany : PySem.W.nsIn K mainGlobals "TooMany" = some (some (.ref c_TooMany)))
    (ga_BadTable : PySem.W.findIn K (.ref c_BadTable) "__getattribute__" = some (some (.builtin "BaseException.__getattribute__")))
    (gg_BadTable : PySem.W.findIn K (.ref c_BadTable) "__getattr__" = some none)
    (eb_BadTable : PySem.W.subIn K (.ref c_BadTable) (.type "BaseException") = some true)
    (hd_BadTable : PySem.W.hasDictIn K c_BadTable = true)
    (ha_BadTable : PySem.W.findIn K (.ref c_BadTable) "__class__" = some (some (.builtin "object.__class__")))
    (hn_0 : PySem.W.specialIn K (.builtin "object.__class__") "__get__" = some (some (.builtin "getset_descriptor.__get__")))
    (ht_0 : PySem.W.takesIn K (.builtin "object.__class__") = some true)
    (hm_BadTable : PySem.W.mroIn K c_BadTable (.type "object") = some true)
    (kit_BadTable_Fault_p : PySem.W.kitOne K (.ref c_BadTable) (.ref c_Fault) = some true)
    (kit_BadTable_ValueError_p : PySem.W.kitOne K (.ref c_BadTable) (.type "ValueError") = some true)
    (kit_BadTable_BadChance_BadFlow_BadWeight_Clash_NotSound_TooMany_p : PySem.W.kitAny K (.ref c_BadTable) [(.ref c_BadChance), (.ref c_BadFlow), (.ref c_BadWeight), (.ref c_Clash), (.ref c_NotSound), (.ref c_TooMany)] = some false)
    (xf_BadTable_rule_p : PySem.W.findIn K (.ref c_BadTable) "rule" = some none)
    (xf_BadTable_things_p : PySem.W.findIn K (.ref c_BadTable) "things" = some none)
    (exm_BadTable_BadTable_p : PySem.W.exmOne K (.ref c_BadTable) (.ref c_BadTable) = some true)
    (pg_Table : PySem.W.plainGet K c_Table Str.empty = true)
    (hd_Table : PySem.W.hasDictIn K c_Table = true)
    (po_Table : PySem.W.plainOver K c_Table = true)
    (sa_Table : PySem.W.findIn K (.ref c_Table) "__setattr__" = some (some (.builtin "object.__setattr__")))
    (na_Table__sums_p : PySem.W.findIn K (.ref c_Table) "_sums" = some none)
    (na_Table__products_p : PySem.W.findIn K (.ref c_Table) "_products" = some none)
    (na_Table__one_p : PySem.W.findIn K (.ref c_Table) "_one" = some none)
    (na_Table__weights_p : PySem.W.findIn K (.ref c_Table) "_weights" = some none)
    (ha_Table : PySem.W.findIn K (.ref c_Table) "__class__" = some (some (.builtin "object.__class__")))
    (hm_Table : PySem.W.mroIn K c_Table (.type "object") = some true)
    (kit_Table_Algebra_p : PySem.W.kitOne K (.ref c_Table) (.ref c_Algebra) = some true)
    (nx_BadTable_rule_p : PySem.W.findIn K (.ref c_BadTable) "rule" = some none)
    (nx_BadTable_things_p : PySem.W.findIn K (.ref c_BadTable) "things" = some none)
    (a0 : PySem.W.findIn K (.ref c_BadTable) "__init__" = some (some (.ref f0)))
    (ty0 : PySem.W.typeIn K (.ref f0) = some (.type "function"))
    (l0 : K.lookup f0 = some ⟨oc0, od0, .func (PySem.W.ksFn "__init__" "BadTable.__init__" (defArgs s_BadTable___init__) (defBody s_BadTable___init__) (defScope s_BadTable___init__) .none kV0 dc0 pm0 an0 (.ref cda0) ct0 cc0), sl0⟩)
    (c0 : PySem.W.codeIn K (.ref cda0) "BadTable.__init__" = true)
    (oe0 : K.lookup c_BadTable = some (excClassObj xn0 xq0 c_BadTable xN0 xbs0 xbm0 true xsn0 xsub0 xab0 xcol0 xdd0 y0_0 y1_0 y2_0 y3_0 y5_0 "ValueError.__new__"))
    (rv0 : PySem.HandSPX.refsVE xbm0 = true)
    (sa_BadTable : PySem.W.findIn K (.ref c_BadTable) "__setattr__" = some (some (.builtin "object.__setattr__")))
    (tC_BadTable : PySem.W.typeIn K (.ref c_BadTable) = some (.type "type"))
    (kc_BadTable : PySem.W.keepIn K (.ref c_BadTable) = true)
    (ce0 : K.lookup cc0 = some ⟨ccl0, ccd0, .cell (some (.ref c_BadTable)), ccs0⟩)
    (co0 : K.lookup cda0 = some ⟨ccl10, ccd10, .fields cvs0, ccs10⟩)
    (vf0 : cvs0[2]? = some (.str cfl0 cft0))
    (fl0 : ((l.prog.main.file : Str) == cfl0) = true)
    (tp : (l.prog.main.scope.names.lookup ("super" : Str)).isSome = false)
    (su0 : PySem.W.ks_superIn K c_BadTable c_BadTable "__init__" = some (some (.builtin "ValueError.__init__")))
    (ve_BadTable : PySem.W.subIn K (.ref c_BadTable) (.type "ValueError") = some true)
    (mr_BadTable : PySem.W.mroIn K c_BadTable (.ref c_BadTable) = some true)
    (z_super : PySem.W.nsIn K mainGlobals "super" = some none)
    (oq_0 : PySem.W.nsIn K cStatics "thirdparty.any" = some none)
    (x1 : PySem.W.nsIn K mainGlobals "_law_cell" = some (some (.ref f1)))
    (l1 : K.lookup f1 = some ⟨oc1, od1, .func (PySem.W.fnOf "_law_cell" "_law_cell" (defArgs s__law_cell) (defBody s__law_cell) (defScope s__law_cell) .none kV1 dc1 pm1 an1 cd1 ct1), sl1⟩)
    (c1 : PySem.W.codeIn K cd1 "_law_cell" = true)
    (k1 : PySem.W.keepIn K (.ref f1) = true)
    (x2 : PySem.W.nsIn K mainGlobals "_law_draws" = some (some (.ref f2)))
    (l2 : K.lookup f2 = some ⟨oc2, od2, .func (PySem.W.fnOf "_law_draws" "_law_draws" (defArgs s__law_draws) (defBody s__law_draws) (defScope s__law_draws) .none kV2 dc2 pm2 an2 cd2 ct2), sl2⟩)
    (c2 : PySem.W.codeIn K cd2 "_law_draws" = true)
    (k2 : PySem.W.keepIn K (.ref f2) = true)
    (x3 : PySem.W.nsIn K mainGlobals "_law_maps" = some (some (.ref f3)))
    (l3 : K.lookup f3 = some ⟨oc3, od3, .func (PySem.W.fnOf "_law_maps" "_law_maps" (defArgs s__law_maps) (defBody s__law_maps) (defScope s__law_maps) .none kV3 dc3 pm3 an3 cd3 ct3), sl3⟩)
    (c3 : PySem.W.codeIn K cd3 "_law_maps" = true)
    (k3 : PySem.W.keepIn K (.ref f3) = true)
    (x4 : PySem.W.nsIn K mainGlobals "_law_sum" = some (some (.ref f4)))
    (l4 : K.lookup f4 = some ⟨oc4, od4, .func (PySem.W.fnOf "_law_sum" "_law_sum" (defArgs s__law_sum) (defBody s__law_sum) (defScope s__law_sum) .none kV4 dc4 pm4 an4 cd4 ct4), sl4⟩)
    (c4 : PySem.W.codeIn K cd4 "_law_sum" = true)
    (k4 : PySem.W.keepIn K (.ref f4) = true)
    (x5 : PySem.W.nsIn K mainGlobals "_law_times" = some (some (.ref f5)))
    (l5 : K.lookup f5 = some ⟨oc5, od5, .func (PySem.W.fnOf "_law_times" "_law_times" (defArgs s__law_times) (defBody s__law_times) (defScope s__law_times) .none kV5 dc5 pm5 an5 cd5 ct5), sl5⟩)
    (c5 : PySem.W.codeIn K cd5 "_law_times" = true)
    (k5 : PySem.W.keepIn K (.ref f5) = true)
    (x6 : PySem.W.nsIn K mainGlobals "_law_table" = some (some (.ref f6)))
    (l6 : K.lookup f6 = some ⟨oc6, od6, .func (PySem.W.fnOf "_law_table" "_law_table" (defArgs s__law_table) (defBody s__law_table) (defScope s__law_table) .none kV6 dc6 pm6 an6 cd6 ct6), sl6⟩)
    (c6 : PySem.W.codeIn K cd6 "_law_table" = true)
    (k6 : PySem.W.keepIn K (.ref f6) = true)
    (x7 : PySem.W.nsIn K mainGlobals "_law_changed" = some (some (.ref f7)))
    (l7 : K.lookup f7 = some ⟨oc7, od7, .func (PySem.W.fnOf "_law_changed" "_law_changed" (defArgs s__law_changed) (defBody s__law_changed) (defScope s__law_changed) .none kV7 dc7 pm7 an7 cd7 ct7), sl7⟩)
    (c7 : PySem.W.codeIn K cd7 "_law_changed" = true)
    (k7 : PySem.W.keepIn K (.ref f7) = true)
    (x8 : PySem.W.nsIn K mainGlobals "_law_bent" = some (some (.ref f8)))
    (l8 : K.lookup f8 = some ⟨oc8, od8, .func (PySem.W.fnOf "_law_bent" "_law_bent" (defArgs s__law_bent) (defBody s__law_bent) (defScope s__law_bent) .none kV8 dc8 pm8 an8 cd8 ct8), sl8⟩)
    (c8 : PySem.W.codeIn K cd8 "_law_bent" = true)
    (k8 : PySem.W.keepIn K (.ref f8) = true)
    (x9 : PySem.W.nsIn K mainGlobals "_law_things" = some (some (.ref f9)))
    (l9 : K.lookup f9 = some ⟨oc9, od9, .func (PySem.W.fnOf "_law_things" "_law_things" (defArgs s__law_things) (defBody s__law_things) (defScope s__law_things) .none kV9 dc9 pm9 an9 cd9 ct9), sl9⟩)
    (c9 : PySem.W.codeIn K cd9 "_law_things" = true)
    (k9 : PySem.W.keepIn K (.ref f9) = true)
    (x10 : PySem.W.nsIn K mainGlobals "_law_fails" = some (some (.ref f10)))
    (l10 : K.lookup f10 = some ⟨oc10, od10, .func (PySem.W.fnOf "_law_fails" "_law_fails" (defArgs s__law_fails) (defBody s__law_fails) (defScope s__law_fails) .none kV10 dc10 pm10 an10 cd10 ct10), sl10⟩)
    (c10 : PySem.W.codeIn K cd10 "_law_fails" = true)
    (k10 : PySem.W.keepIn K (.ref f10) = true)
    (x11 : PySem.W.nsIn K mainGlobals "_law_broken" = some (some (.ref f11)))
    (l11 : K.lookup f11 = some ⟨oc11, od11, .func (PySem.W.fnOf "_law_broken" "_law_broken" (defArgs s__law_broken) (defBody s__law_broken) (defScope s__law_broken) .none kV11 dc11 pm11 an11 cd11 ct11), sl11⟩)
    (c11 : PySem.W.codeIn K cd11 "_law_broken" = true)
    (k11 : PySem.W.keepIn K (.ref f11) = true)
    (x12 : PySem.W.nsIn K mainGlobals "_all_things" = some (some (.ref f12)))
    (l12 : K.lookup f12 = some ⟨oc12, od12, .func (PySem.W.fnOf "_all_things" "_all_things" (defArgs s__all_things) (defBody s__all_things) (defScope s__all_things) .none kV12 dc12 pm12 an12 cd12 ct12), sl12⟩)
    (c12 : PySem.W.codeIn K cd12 "_all_things" = true)
    (k12 : PySem.W.keepIn K (.ref f12) = true)
    (x13 : PySem.W.nsIn K mainGlobals "_holds" = some (some (.ref f13)))
    (l13 : K.lookup f13 = some ⟨oc13, od13, .func (PySem.W.fnOf "_holds" "_holds" (defArgs s__holds) (defBody s__holds) (defScope s__holds) .none kV13 dc13 pm13 an13 cd13 ct13), sl13⟩)
    (c13 : PySem.W.codeIn K cd13 "_holds" = true)
    (k13 : PySem.W.keepIn K (.ref f13) = true)
    (x14 : PySem.W.nsIn K mainGlobals "check_table" = some (some (.ref f14)))
    (l14 : K.lookup f14 = some ⟨oc14, od14, .func (PySem.W.fnOf "check_table" "check_table" (defArgs s_check_table) (defBody s_check_table) (defScope s_check_table) .none kV14 dc14 pm14 an14 cd14 ct14), sl14⟩)
    (c14 : PySem.W.codeIn K cd14 "check_table" = true)
    (k14 : PySem.W.keepIn K (.ref f14) = true)
    (x15 : PySem.W.nsIn K mainGlobals "_law_judged" = some (some (.ref f15)))
    (l15 : K.lookup f15 = some ⟨oc15, od15, .func (PySem.W.fnOf "_law_judged" "_law_judged" (defArgs s__law_judged) (defBody s__law_judged) (defScope s__law_judged) .none kV15 dc15 pm15 an15 cd15 ct15), sl15⟩)
    (c15 : PySem.W.codeIn K cd15 "_law_judged" = true)
    (k15 : PySem.W.keepIn K (.ref f15) = true)
    (x16 : PySem.W.nsIn K mainGlobals "_law_same" = some (some (.ref f16)))
    (l16 : K.lookup f16 = some ⟨oc16, od16, .func (PySem.W.fnOf "_law_same" "_law_same" (defArgs s__law_same) (defBody s__law_same) (defScope s__law_same) .none kV16 dc16 pm16 an16 cd16 ct16), sl16⟩)
    (c16 : PySem.W.codeIn K cd16 "_law_same" = true)
    (k16 : PySem.W.keepIn K (.ref f16) = true)
    (x17 : PySem.W.nsIn K mainGlobals "_law_name" = some (some (.ref f17)))
    (l17 : K.lookup f17 = some ⟨oc17, od17, .func (PySem.W.fnOf "_law_name" "_law_name" (defArgs s__law_name) (defBody s__law_name) (defScope s__law_name) .none kV17 dc17 pm17 an17 cd17 ct17), sl17⟩)
    (c17 : PySem.W.codeIn K cd17 "_law_name" = true)
    (k17 : PySem.W.keepIn K (.ref f17) = true)
    (x18 : PySem.W.nsIn K mainGlobals "_law_weights" = some (some (.ref f18)))
    (l18 : K.lookup f18 = some ⟨oc18, od18, .func (PySem.W.fnOf "_law_weights" "_law_weights" (defArgs s__law_weights) (defBody s__law_weights) (defScope s__law_weights) .none kV18 dc18 pm18 an18 cd18 ct18), sl18⟩)
    (c18 : PySem.W.codeIn K cd18 "_law_weights" = true)
    (k18 : PySem.W.keepIn K (.ref f18) = true)
    (a19 : PySem.W.findIn K (.ref c_Table) "__init__" = some (some (.ref f19)))
    (i19 : PySem.W.isFn K (.ref f19) = true)
    (mk_Table : PySem.W.makesIn K c_Table = true)
    (kc_Table : PySem.W.keepIn K (.ref c_Table) = true)
    (l19 : K.lookup f19 = some ⟨oc19, od19, .func (PySem.W.fnOf "__init__" "Table.__init__" (defArgs s_Table___init__) (defBody s_Table___init__) (defScope s_Table___init__) .none kV19 dc19 pm19 an19 cd19 ct19), sl19⟩)
    (c19 : PySem.W.codeIn K cd19 "Table.__init__" = true)
    (k19 : PySem.W.keepIn K (.ref f19) = true)
    (a20 : PySem.W.findIn K (.ref c_Table) "one" = some (some (.ref f20)))
    (i20 : PySem.W.isFn K (.ref f20) = true)
    (l20 : K.lookup f20 = some ⟨oc20, od20, .func (PySem.W.fnOf "one" "Table.one" (defArgs s_Table_one) (defBody s_Table_one) (defScope s_Table_one) .none kV20 dc20 pm20 an20 cd20 ct20), sl20⟩)
    (c20 : PySem.W.codeIn K cd20 "Table.one" = true)
    (k20 : PySem.W.keepIn K (.ref f20) = true)
    (a21 : PySem.W.findIn K (.ref c_Table) "letter" = some (some (.ref f21)))
    (i21 : PySem.W.isFn K (.ref f21) = true)
    (l21 : K.lookup f21 = some ⟨oc21, od21, .func (PySem.W.fnOf "letter" "Table.letter" (defArgs s_Table_letter) (defBody s_Table_letter) (defScope s_Table_letter) .none kV21 dc21 pm21 an21 cd21 ct21), sl21⟩)
    (c21 : PySem.W.codeIn K cd21 "Table.letter" = true)
    (k21 : PySem.W.keepIn K (.ref f21) = true)
    (x22 : PySem.W.nsIn K mainGlobals "_law_star" = some (some (.ref f22)))
    (l22 : K.lookup f22 = some ⟨oc22, od22, .func (PySem.W.fnOf "_law_star" "_law_star" (defArgs s__law_star) (defBody s__law_star) (defScope s__law_star) .none kV22 dc22 pm22 an22 cd22 ct22), sl22⟩)
    (c22 : PySem.W.codeIn K cd22 "_law_star" = true)
    (k22 : PySem.W.keepIn K (.ref f22) = true)
    (a23 : PySem.W.findIn K (.ref c_Table) "plus" = some (some (.ref f23)))
    (i23 : PySem.W.isFn K (.ref f23) = true)
    (l23 : K.lookup f23 = some ⟨oc23, od23, .func (PySem.W.fnOf "plus" "Table.plus" (defArgs s_Table_plus) (defBody s_Table_plus) (defScope s_Table_plus) .none kV23 dc23 pm23 an23 cd23 ct23), sl23⟩)
    (c23 : PySem.W.codeIn K cd23 "Table.plus" = true)
    (k23 : PySem.W.keepIn K (.ref f23) = true)
    (a24 : PySem.W.findIn K (.ref c_Table) "times" = some (some (.ref f24)))
    (i24 : PySem.W.isFn K (.ref f24) = true)
    (l24 : K.lookup f24 = some ⟨oc24, od24, .func (PySem.W.fnOf "times" "Table.times" (defArgs s_Table_times) (defBody s_Table_times) (defScope s_Table_times) .none kV24 dc24 pm24 an24 cd24 ct24), sl24⟩)
    (c24 : PySem.W.codeIn K cd24 "Table.times" = true)
    (k24 : PySem.W.keepIn K (.ref f24) = true)
    (a25 : PySem.W.findIn K (.ref c_Table) "star" = some (some (.ref f25)))
    (i25 : PySem.W.isFn K (.ref f25) = true)
    (l25 : K.lookup f25 = some ⟨oc25, od25, .func (PySem.W.fnOf "star" "Table.star" (defArgs s_Table_star) (defBody s_Table_star) (defScope s_Table_star) .none kV25 dc25 pm25 an25 cd25 ct25), sl25⟩)
    (c25 : PySem.W.codeIn K cd25 "Table.star" = true)
    (k25 : PySem.W.keepIn K (.ref f25) = true)
    (x26 : PySem.W.nsIn K mainGlobals "_law_holds" = some (some (.ref f26)))
    (l26 : K.lookup f26 = some ⟨oc26, od26, .func (PySem.W.fnOf "_law_holds" "_law_holds" (defArgs s__law_holds) (defBody s__law_holds) (defScope s__law_holds) .none kV26 dc26 pm26 an26 cd26 ct26), sl26⟩)
    (c26 : PySem.W.codeIn K cd26 "_law_holds" = true)
    (k26 : PySem.W.keepIn K (.ref f26) = true)
    (x27 : PySem.W.nsIn K mainGlobals "law" = some (some (.ref f27)))
    (l27 : K.lookup f27 = some ⟨oc27, od27, .func (PySem.W.fnOf "law" "law" (defArgs s_law) (defBody s_law) (defScope s_law) .none kV27 dc27 pm27 an27 cd27 ct27), sl27⟩)
    (c27 : PySem.W.codeIn K cd27 "law" = true)
    (k27 : PySem.W.keepIn K (.ref f27) = true)
    (z_ValueError : PySem.W.nsIn K mainGlobals "ValueError" = some none)
    (z_abs : PySem.W.nsIn K mainGlobals "abs" = some none)
    (z_all : PySem.W.nsIn K mainGlobals "all" = some none)
    (z_bool : PySem.W.nsIn K mainGlobals "bool" = some none)
    (z_int : PySem.W.nsIn K mainGlobals "int" = some none)
    (z_isinstance : PySem.W.nsIn K mainGlobals "isinstance" = some none)
    (z_len : PySem.W.nsIn K mainGlobals "len" = some none)
    (z_list : PySem.W.nsIn K mainGlobals "list" = some none)
    (z_max : PySem.W.nsIn K mainGlobals "max" = some none)
    (z_min : PySem.W.nsIn K mainGlobals "min" = some none)
    (z_range : PySem.W.nsIn K mainGlobals "range" = some none)
    (z_str : PySem.W.nsIn K mainGlobals "str" = some none)
    (z_tuple : PySem.W.nsIn K mainGlobals "tuple" = some none)
    (g_RULES : PySem.W.nsIn K mainGlobals "RULES" = some (some (.ref a_RULES)))
    (d_q_RULES : K.lookup a_RULES = some ⟨.type "tuple", od_q_RULES, .seq #[.ref q_RULES_0, .ref q_RULES_1, .ref q_RULES_2, .ref q_RULES_3, .ref q_RULES_4, .ref q_RULES_5, .ref q_RULES_6, .ref q_RULES_7, .ref q_RULES_8] n_q_RULES, sl_q_RULES⟩)
    (d_q_RULES_0 : K.lookup q_RULES_0 = some ⟨.type "tuple", od_q_RULES_0, .seq #[.str "zero" tq_RULES_0_0, .int (1) tq_RULES_0_1] n_q_RULES_0, sl_q_RULES_0⟩)
    (d_q_RULES_1 : K.lookup q_RULES_1 = some ⟨.type "tuple", od_q_RULES_1, .seq #[.str "same" tq_RULES_1_0, .int (1) tq_RULES_1_1] n_q_RULES_1, sl_q_RULES_1⟩)
    (d_q_RULES_2 : K.lookup q_RULES_2 = some ⟨.type "tuple", od_q_RULES_2, .seq #[.str "order" tq_RULES_2_0, .int (2) tq_RULES_2_1] n_q_RULES_2, sl_q_RULES_2⟩)
    (d_q_RULES_3 : K.lookup q_RULES_3 = some ⟨.type "tuple", od_q_RULES_3, .seq #[.str "group" tq_RULES_3_0, .int (3) tq_RULES_3_1] n_q_RULES_3, sl_q_RULES_3⟩)
    (d_q_RULES_4 : K.lookup q_RULES_4 = some ⟨.type "tuple", od_q_RULES_4, .seq #[.str "one" tq_RULES_4_0, .int (1) tq_RULES_4_1] n_q_RULES_4, sl_q_RULES_4⟩)
    (d_q_RULES_5 : K.lookup q_RULES_5 = some ⟨.type "tuple", od_q_RULES_5, .seq #[.str "none" tq_RULES_5_0, .int (1) tq_RULES_5_1] n_q_RULES_5, sl_q_RULES_5⟩)
    (d_q_RULES_6 : K.lookup q_RULES_6 = some ⟨.type "tuple", od_q_RULES_6, .seq #[.str "times" tq_RULES_6_0, .int (3) tq_RULES_6_1] n_q_RULES_6, sl_q_RULES_6⟩)
    (d_q_RULES_7 : K.lookup q_RULES_7 = some ⟨.type "tuple", od_q_RULES_7, .seq #[.str "left" tq_RULES_7_0, .int (3) tq_RULES_7_1] n_q_RULES_7, sl_q_RULES_7⟩)
    (d_q_RULES_8 : K.lookup q_RULES_8 = some ⟨.type "tuple", od_q_RULES_8, .seq #[.str "right" tq_RULES_8_0, .int (3) tq_RULES_8_1] n_q_RULES_8, sl_q_RULES_8⟩) :
    ∃ fd : FuncData, (∀ (s : Shared) (v : Value), BindsTo s fd ⟨[v], []⟩ [("script", v)]) ∧ ∀ base : Heap, K.In base → base.Ns mainGlobals mg → FnOk l.prog w K mg base (L2.CX l.prog w) 14 fa fd ["script"] (spLaw K) := by
  have e := hfa.symm.trans (PySem.W.mg_of X G x27)
  cases e
  let ca : CA := ⟨c_Algebra, c_BadChance, c_BadFlow, c_BadTable, c_BadWeight, c_Clash, c_Fault, c_NotSound, c_Table, c_TooMany⟩
  have T : Txt K mg := ⟨PySem.W.mg_none_of X G z_ValueError, PySem.W.mg_none_of X G z_abs, PySem.W.mg_none_of X G z_all, PySem.W.mg_none_of X G z_bool, PySem.W.mg_none_of X G z_int, PySem.W.mg_none_of X G z_isinstance, PySem.W.mg_none_of X G z_len, PySem.W.mg_none_of X G z_list, PySem.W.mg_none_of X G z_max, PySem.W.mg_none_of X G z_min, PySem.W.mg_none_of X G z_range, PySem.W.mg_none_of X G z_str, PySem.W.mg_none_of X G z_tuple, ⟨_, PySem.W.mg_of X G g_RULES, fun I => ktup_of (.tup d_q_RULES (show 9 ≤ sizeLine by decide) (.cons (.tup d_q_RULES_0 (show 2 ≤ sizeLine by decide) (.cons (.str _ _) (.cons (.int _ _) .nil))) (.cons (.tup d_q_RULES_1 (show 2 ≤ sizeLine by decide) (.cons (.str _ _) (.cons (.int _ _) .nil))) (.cons (.tup d_q_RULES_2 (show 2 ≤ sizeLine by decide) (.cons (.str _ _) (.cons (.int _ _) .nil))) (.cons (.tup d_q_RULES_3 (show 2 ≤ sizeLine by decide) (.cons (.str _ _) (.cons (.int _ _) .nil))) (.cons (.tup d_q_RULES_4 (show 2 ≤ sizeLine by decide) (.cons (.str _ _) (.cons (.int _ _) .nil))) (.cons (.tup d_q_RULES_5 (show 2 ≤ sizeLine by decide) (.cons (.str _ _) (.cons (.int _ _) .nil))) (.cons (.tup d_q_RULES_6 (show 2 ≤ sizeLine by decide) (.cons (.str _ _) (.cons (.int _ _) .nil))) (.cons (.tup d_q_RULES_7 (show 2 ≤ sizeLine by decide) (.cons (.str _ _) (.cons (.int _ _) .nil))) (.cons (.tup d_q_RULES_8 (show 2 ≤ sizeLine by decide) (.cons (.str _ _) (.cons (.int _ _) .nil))) .nil)))))))))) I⟩⟩
  have Z : Fx K mg := ⟨PySem.W.mg_of X G xC_Fault,
    ⟨ga_BadTable, gg_BadTable, eb_BadTable, hd_BadTable, ha_BadTable, hn_0, ht_0, hm_BadTable⟩,
    (show kitD K (.ref CA.BadTable) (.clr CA.Fault) = some true from kit_BadTable_Fault_p),
    (show kitD K (.ref CA.BadTable) (.ty "ValueError") = some true from kit_BadTable_ValueError_p),
    PySem.W.mg_of X G xC_BadChance,
    PySem.W.mg_of X G xC_BadFlow,
    PySem.W.mg_of X G xC_BadWeight,
    PySem.W.mg_of X G xC_Clash,
    PySem.W.mg_of X G xC_NotSound,
    PySem.W.mg_of X G xC_TooMany,
    (show kitD K (.ref CA.BadTable) (.tup [(.clr CA.BadChance), (.clr CA.BadFlow), (.clr CA.BadWeight), (.clr CA.Clash), (.clr CA.NotSound), (.clr CA.TooMany)]) = some false from kit_BadTable_BadChance_BadFlow_BadWeight_Clash_NotSound_TooMany_p),
    ⟨⟨ga_BadTable, gg_BadTable, eb_BadTable, hd_BadTable⟩, xf_BadTable_rule_p⟩,
    ⟨⟨ga_BadTable, gg_BadTable, eb_BadTable, hd_BadTable⟩, xf_BadTable_things_p⟩,
    exm_BadTable_BadTable_p,
    PySem.W.mg_of X G xC_BadTable,
    ⟨pg_Table, hd_Table, po_Table, sa_Table⟩,
    na_Table__sums_p,
    na_Table__products_p,
    na_Table__one_p,
    na_Table__weights_p,
    PySem.W.mg_of X G xC_Algebra,
    ⟨⟨pg_Table, hd_Table, po_Table, sa_Table⟩, ha_Table, hn_0, ht_0, hm_Table⟩,
    (show kitD K (.ref CA.Table) (.clr CA.Algebra) = some true from kit_Table_Algebra_p),
    nx_BadTable_rule_p,
    nx_BadTable_things_p⟩
  have A0 : AtE l.prog K mg "BadTable" CA.BadTable "BadTable.__init__" s_BadTable___init__ ["self", "rule", "things"] := ⟨PySem.W.mg_of X G xC_BadTable, ⟨⟨_, _, _, _, _, _, _, _, _, _, _, _, _, _, _, oe0, rv0⟩, sa_BadTable, eb_BadTable, tC_BadTable, kc_BadTable⟩, ⟨f0, cc0, cda0, _, _, _, _, _, _, _, _, a0, ty0, l0, c0, ⟨⟨_, _, _, ce0⟩, ⟨_, _, _, _, _, _, co0, vf0, fl0⟩, tp, ⟨⟨_, _, _, _, _, _, _, _, _, _, _, _, _, _, _, oe0, rv0⟩, sa_BadTable, eb_BadTable, tC_BadTable, kc_BadTable⟩, su0, ve_BadTable, mr_BadTable, PySem.W.mg_none_of X G z_super, oq_0⟩, .all fun us hl => match us, hl with | [_, _, _], _ => rfl⟩⟩
  have F1 := fun_mk (st := s__law_cell) l1 c1 k1
  have A1 : At K mg "_law_cell" s__law_cell ["script", "k"] := ⟨_, _, F1, PySem.W.mg_of X G x1, F1.binds (ps := ["script", "k"]) fun _ _ _ _ _ _ us hl => match us, hl with | [_, _], _ => rfl⟩
  have F2 := fun_mk (st := s__law_draws) l2 c2 k2
  have A2 : At K mg "_law_draws" s__law_draws ["cell", "count"] := ⟨_, _, F2, PySem.W.mg_of X G x2, F2.binds (ps := ["cell", "count"]) fun _ _ _ _ _ _ us hl => match us, hl with | [_, _], _ => rfl⟩
  have F3 := fun_mk (st := s__law_maps) l3 c3 k3
  have A3 : At K mg "_law_maps" s__law_maps ["kind"] := ⟨_, _, F3, PySem.W.mg_of X G x3, F3.binds (ps := ["kind"]) fun _ _ _ _ _ _ us hl => match us, hl with | [_], _ => rfl⟩
  have F4 := fun_mk (st := s__law_sum) l4 c4 k4
  have A4 : At K mg "_law_sum" s__law_sum ["kind", "width", "x", "y"] := ⟨_, _, F4, PySem.W.mg_of X G x4, F4.binds (ps := ["kind", "width", "x", "y"]) fun _ _ _ _ _ _ us hl => match us, hl with | [_, _, _, _], _ => rfl⟩
  have F5 := fun_mk (st := s__law_times) l5 c5 k5
  have A5 : At K mg "_law_times" s__law_times ["kind", "width", "size", "turn", "x", "y"] := ⟨_, _, F5, PySem.W.mg_of X G x5, F5.binds (ps := ["kind", "width", "size", "turn", "x", "y"]) fun _ _ _ _ _ _ us hl => match us, hl with | [_, _, _, _, _, _], _ => rfl⟩
  have F6 := fun_mk (st := s__law_table) l6 c6 k6
  have A6 : At K mg "_law_table" s__law_table ["draws"] := ⟨_, _, F6, PySem.W.mg_of X G x6, F6.binds (ps := ["draws"]) fun _ _ _ _ _ _ us hl => match us, hl with | [_], _ => rfl⟩
  have F7 := fun_mk (st := s__law_changed) l7 c7 k7
  have A7 : At K mg "_law_changed" s__law_changed ["table", "which", "i", "j", "thing"] := ⟨_, _, F7, PySem.W.mg_of X G x7, F7.binds (ps := ["table", "which", "i", "j", "thing"]) fun _ _ _ _ _ _ us hl => match us, hl with | [_, _, _, _, _], _ => rfl⟩
  have F8 := fun_mk (st := s__law_bent) l8 c8 k8
  have A8 : At K mg "_law_bent" s__law_bent ["table", "draws"] := ⟨_, _, F8, PySem.W.mg_of X G x8, F8.binds (ps := ["table", "draws"]) fun _ _ _ _ _ _ us hl => match us, hl with | [_, _], _ => rfl⟩
  have F9 := fun_mk (st := s__law_things) l9 c9 k9
  have A9 : At K mg "_law_things" s__law_things ["size", "many"] := ⟨_, _, F9, PySem.W.mg_of X G x9, F9.binds (ps := ["size", "many"]) fun _ _ _ _ _ _ us hl => match us, hl with | [_, _], _ => rfl⟩
  have F10 := fun_mk (st := s__law_fails) l10 c10 k10
  have A10 : At K mg "_law_fails" s__law_fails ["table", "rule", "things"] := ⟨_, _, F10, PySem.W.mg_of X G x10, F10.binds (ps := ["table", "rule", "things"]) fun _ _ _ _ _ _ us hl => match us, hl with | [_, _, _], _ => rfl⟩
  have F11 := fun_mk (st := s__law_broken) l11 c11 k11
  have A11 : At K mg "_law_broken" s__law_broken ["table"] := ⟨_, _, F11, PySem.W.mg_of X G x11, F11.binds (ps := ["table"]) fun _ _ _ _ _ _ us hl => match us, hl with | [_], _ => rfl⟩
  have F12 := fun_mk (st := s__all_things) l12 c12 k12
  have A12 : At K mg "_all_things" s__all_things ["size", "many"] := ⟨_, _, F12, PySem.W.mg_of X G x12, F12.binds (ps := ["size", "many"]) fun _ _ _ _ _ _ us hl => match us, hl with | [_, _], _ => rfl⟩
  have F13 := fun_mk (st := s__holds) l13 c13 k13
  have A13 : At K mg "_holds" s__holds ["table", "rule", "things"] := ⟨_, _, F13, PySem.W.mg_of X G x13, F13.binds (ps := ["table", "rule", "things"]) fun _ _ _ _ _ _ us hl => match us, hl with | [_, _, _], _ => rfl⟩
  have F14 := fun_mk (st := s_check_table) l14 c14 k14
  have A14 : At K mg "check_table" s_check_table ["table"] := ⟨_, _, F14, PySem.W.mg_of X G x14, F14.binds (ps := ["table"]) fun _ _ _ _ _ _ us hl => match us, hl with | [_], _ => rfl⟩
  have F15 := fun_mk (st := s__law_judged) l15 c15 k15
  have A15 : At K mg "_law_judged" s__law_judged ["table"] := ⟨_, _, F15, PySem.W.mg_of X G x15, F15.binds (ps := ["table"]) fun _ _ _ _ _ _ us hl => match us, hl with | [_], _ => rfl⟩
  have F16 := fun_mk (st := s__law_same) l16 c16 k16
  have A16 : At K mg "_law_same" s__law_same ["one", "other"] := ⟨_, _, F16, PySem.W.mg_of X G x16, F16.binds (ps := ["one", "other"]) fun _ _ _ _ _ _ us hl => match us, hl with | [_, _], _ => rfl⟩
  have F17 := fun_mk (st := s__law_name) l17 c17 k17
  have A17 : At K mg "_law_name" s__law_name ["number", "salt"] := ⟨_, _, F17, PySem.W.mg_of X G x17, F17.binds (ps := ["number", "salt"]) fun _ _ _ _ _ _ us hl => match us, hl with | [_, _], _ => rfl⟩
  have F18 := fun_mk (st := s__law_weights) l18 c18 k18
  have A18 : At K mg "_law_weights" s__law_weights ["size", "draws"] := ⟨_, _, F18, PySem.W.mg_of X G x18, F18.binds (ps := ["size", "draws"]) fun _ _ _ _ _ _ us hl => match us, hl with | [_, _], _ => rfl⟩
  have F19 := fun_mk (st := s_Table___init__) l19 c19 k19
  have A19 : AtI K mg "Table" CA.Table "Table.__init__" s_Table___init__ ["self", "table", "weights"] := ⟨PySem.W.mg_of X G xC_Table, _, _, F19, ⟨mk_Table, a19, i19, kc_Table⟩, F19.binds (ps := ["self", "table", "weights"]) fun _ _ _ _ _ _ us hl => match us, hl with | [_, _, _], _ => rfl⟩
  have F20 := fun_mk (st := s_Table_one) l20 c20 k20
  have A20 : AtM K CA.Table "one" "Table.one" s_Table_one ["self"] := ⟨_, _, F20, ⟨a20, i20, k20⟩, F20.binds (ps := ["self"]) fun _ _ _ _ _ _ us hl => match us, hl with | [_], _ => rfl⟩
  have F21 := fun_mk (st := s_Table_letter) l21 c21 k21
  have A21 : AtM K CA.Table "letter" "Table.letter" s_Table_letter ["self", "label"] := ⟨_, _, F21, ⟨a21, i21, k21⟩, F21.binds (ps := ["self", "label"]) fun _ _ _ _ _ _ us hl => match us, hl with | [_, _], _ => rfl⟩
  have F22 := fun_mk (st := s__law_star) l22 c22 k22
  have A22 : At K mg "_law_star" s__law_star ["table", "x"] := ⟨_, _, F22, PySem.W.mg_of X G x22, F22.binds (ps := ["table", "x"]) fun _ _ _ _ _ _ us hl => match us, hl with | [_, _], _ => rfl⟩
  have F23 := fun_mk (st := s_Table_plus) l23 c23 k23
  have A23 : AtM K CA.Table "plus" "Table.plus" s_Table_plus ["self", "x", "y"] := ⟨_, _, F23, ⟨a23, i23, k23⟩, F23.binds (ps := ["self", "x", "y"]) fun _ _ _ _ _ _ us hl => match us, hl with | [_, _, _], _ => rfl⟩
  have F24 := fun_mk (st := s_Table_times) l24 c24 k24
  have A24 : AtM K CA.Table "times" "Table.times" s_Table_times ["self", "x", "y"] := ⟨_, _, F24, ⟨a24, i24, k24⟩, F24.binds (ps := ["self", "x", "y"]) fun _ _ _ _ _ _ us hl => match us, hl with | [_, _, _], _ => rfl⟩
  have F25 := fun_mk (st := s_Table_star) l25 c25 k25
  have A25 : AtM K CA.Table "star" "Table.star" s_Table_star ["self", "x"] := ⟨_, _, F25, ⟨a25, i25, k25⟩, F25.binds (ps := ["self", "x"]) fun _ _ _ _ _ _ us hl => match us, hl with | [_, _], _ => rfl⟩
  have F26 := fun_mk (st := s__law_holds) l26 c26 k26
  have A26 : At K mg "_law_holds" s__law_holds ["algebra", "table", "weights"] := ⟨_, _, F26, PySem.W.mg_of X G x26, F26.binds (ps := ["algebra", "table", "weights"]) fun _ _ _ _ _ _ us hl => match us, hl with | [_, _, _], _ => rfl⟩
  have F27 := fun_mk (st := s_law) l27 c27 k27
  refine ⟨PySem.W.fnOf "law" "law" (defArgs s_law) (defBody s_law) (defScope s_law) .none kV27 dc27 pm27 an27 cd27 ct27, fun s v => .of_eq rfl, fun base _ _ => ?_⟩
  have h_BadTable___init__ := hasE_BadTable (P := l.prog) (w := w) (base := base) T Z A0
  have h__law_cell := has__law_cell (P := l.prog) (w := w) (base := base) T A1
  have h__law_draws := has__law_draws (P := l.prog) (w := w) (base := base) T A2
  have h__law_maps := has__law_maps (P := l.prog) (w := w) (base := base) T A3
  have h__law_sum := has__law_sum (P := l.prog) (w := w) (base := base) T A4 h__law_maps
  have h__law_times := has__law_times (P := l.prog) (w := w) (base := base) T A5 h__law_maps
  have h__law_table := has__law_table (P := l.prog) (w := w) (base := base) T A6 h__law_sum h__law_times
  have h__law_changed := has__law_changed (P := l.prog) (w := w) (base := base) T A7
  have h__law_bent := has__law_bent (P := l.prog) (w := w) (base := base) T A8 h__law_changed
  have h__law_things := has__law_things (P := l.prog) (w := w) (base := base) T A9
  have h__law_fails := has__law_fails (P := l.prog) (w := w) (base := base) T A10
  have h__law_broken := has__law_broken (P := l.prog) (w := w) (base := base) T A11 h__law_things h__law_fails
  have h__all_things := has__all_things (P := l.prog) (w := w) (base := base) T A12
  have h__holds := has__holds (P := l.prog) (w := w) (base := base) T Z A13
  have h_check_table := has_check_table (P := l.prog) (w := w) (base := base) T Z A14 h__all_things h__holds h_BadTable___init__
  have h__law_judged := has__law_judged (P := l.prog) (w := w) (base := base) T Z A15 h_check_table
  have h__law_same := has__law_same (P := l.prog) (w := w) (base := base) T A16 12
  have h__law_name := has__law_name (P := l.prog) (w := w) (base := base) T A17
  have h__law_weights := has__law_weights (P := l.prog) (w := w) (base := base) T Z A18 h__law_name
  have h_Table___init__ := has_Table___init__ (P := l.prog) (w := w) (base := base) T Z A19
  have h_Table_one := has_Table_one (P := l.prog) (w := w) (base := base) T Z A20
  have h_Table_letter := has_Table_letter (P := l.prog) (w := w) (base := base) T Z A21
  have h__law_star := has__law_star (P := l.prog) (w := w) (base := base) T A22
  have h_Table_plus := has_Table_plus (P := l.prog) (w := w) (base := base) T Z A23
  have h_Table_times := has_Table_times (P := l.prog) (w := w) (base := base) T Z A24
  have h_Table_star := has_Table_star (P := l.prog) (w := w) (base := base) T Z A25 h_Table_plus h_Table_times
  have h__law_holds := has__law_holds (P := l.prog) (w := w) (base := base) T Z A26 h_Table_one h__law_same h_Table_letter h__law_star h_Table_star h_Table_plus h_Table_times
  exact fn_law (hlaw ca) (law_okS T Z F27 h__law_cell h__law_draws h__law_table h__law_bent h__law_broken h__law_judged h__law_same h__law_weights h_Table___init__ h__law_holds)
end K17
open PySem PySem.W PyProof.Rows
set_option maxRecDepth 100000 in
set_option maxHeartbeats 0 in
theorem PySem.Challenge.cw_partychoices_k17_tables_refused_holds : PySem.Challenge.rw_partychoices_k17_tables_refused.Holds := by
  w_on; o_law; k_head; (case hw => w_witness2)
  k_fill
  refine DD.walkS (l := PySem.Challenge.rw_partychoices_k17_tables_refused) (k := 14) ⟨rfl, by decide, by decide⟩ rfl rfl (fun w h Y => PySem.W.kIn_of Y) ?F
  case F =>
    intro w mg fa h KX G hmg
    refine' K17.all_mk KX G hmg K17.law_true ?xC_Algebra ?xC_BadChance ?xC_BadFlow ?xC_BadTable ?xC_BadWeight ?xC_Clash ?xC_Fault ?xC_NotSound ?xC_Table ?xC_TooMany ?ga_BadTable ?gg_BadTable ?eb_BadTable ?hd_BadTable ?ha_BadTable ?hn_0 ?ht_0 ?hm_BadTable ?kit_BadTable_Fault_p ?kit_BadTable_ValueError_p ?kit_BadTable_BadChance_BadFlow_BadWeight_Clash_NotSound_TooMany_p ?xf_BadTable_rule_p ?xf_BadTable_things_p ?exm_BadTable_BadTable_p ?pg_Table ?hd_Table ?po_Table ?sa_Table ?na_Table__sums_p ?na_Table__products_p ?na_Table__one_p ?na_Table__weights_p ?ha_Table ?hm_Table ?kit_Table_Algebra_p ?nx_BadTable_rule_p ?nx_BadTable_things_p ?a0 ?ty0 ?l0 ?c0 ?oe0 ?rv0 ?sa_BadTable ?tC_BadTable ?kc_BadTable ?ce0 ?co0 ?vf0 ?fl0 ?tp ?su0 ?ve_BadTable ?mr_BadTable ?z_super ?oq_0 ?x1 ?l1 ?c1 ?k1 ?x2 ?l2 ?c2 ?k2 ?x3 ?l3 ?c3 ?k3 ?x4 ?l4 ?c4 ?k4 ?x5 ?l5 ?c5 ?k5 ?x6 ?l6 ?c6 ?k6 ?x7 ?l7 ?c7 ?k7 ?x8 ?l8 ?c8 ?k8 ?x9 ?l9 ?c9 ?k9 ?x10 ?l10 ?c10 ?k10 ?x11 ?l11 ?c11 ?k11 ?x12 ?l12 ?c12 ?k12 ?x13 ?l13 ?c13 ?k13 ?x14 ?l14 ?c14 ?k14 ?x15 ?l15 ?c15 ?k15 ?x16 ?l16 ?c16 ?k16 ?x17 ?l17 ?c17 ?k17 ?x18 ?l18 ?c18 ?k18 ?a19 ?i19 ?mk_Table ?kc_Table ?l19 ?c19 ?k19 ?a20 ?i20 ?l20 ?c20 ?k20 ?a21 ?i21 ?l21 ?c21 ?k21 ?x22 ?l22 ?c22 ?k22 ?a23 ?i23 ?l23 ?c23 ?k23 ?a24 ?i24 ?l24 ?c24 ?k24 ?a25 ?i25 ?l25 ?c25 ?k25 ?x26 ?l26 ?c26 ?k26 ?x27 ?l27 ?c27 ?k27 ?z_ValueError ?z_abs ?z_all ?z_bool ?z_int ?z_isinstance ?z_len ?z_list ?z_max ?z_min ?z_range ?z_str ?z_tuple ?g_RULES ?d_q_RULES ?d_q_RULES_0 ?d_q_RULES_1 ?d_q_RULES_2 ?d_q_RULES_3 ?d_q_RULES_4 ?d_q_RULES_5 ?d_q_RULES_6 ?d_q_RULES_7 ?d_q_RULES_8
    (case xC_Algebra => k_is)
    (case xC_BadChance => k_is)
    (case xC_BadFlow => k_is)
    (case xC_BadTable => k_is)
    (case xC_BadWeight => k_is)
    (case xC_Clash => k_is)
    (case xC_Fault => k_is)
    (case xC_NotSound => k_is)
    (case xC_Table => k_is)
    (case xC_TooMany => k_is)
    (case ga_BadTable => k_is)
    (case gg_BadTable => k_is)
    (case eb_BadTable => k_is)
    (case hd_BadTable => k_is)
    (case ha_BadTable => k_is)
    (case hn_0 => k_is)
    (case ht_0 => k_is)
    (case hm_BadTable => k_is)
    (case kit_BadTable_Fault_p => first | kit_is | kernel_rfl)
    (case kit_BadTable_ValueError_p => first | kit_is | kernel_rfl)
    (case kit_BadTable_BadChance_BadFlow_BadWeight_Clash_NotSound_TooMany_p => first | kit_is | kernel_rfl)
    (case xf_BadTable_rule_p => k_is)
    (case xf_BadTable_things_p => k_is)
    (case exm_BadTable_BadTable_p => kernel_rfl)
    (case pg_Table => k_is)
    (case hd_Table => k_is)
    (case po_Table => k_is)
    (case sa_Table => k_is)
    (case na_Table__sums_p => k_is)
    (case na_Table__products_p => k_is)
    (case na_Table__one_p => k_is)
    (case na_Table__weights_p => k_is)
    (case ha_Table => k_is)
    (case hm_Table => k_is)
    (case kit_Table_Algebra_p => first | kit_is | kernel_rfl)
    (case nx_BadTable_rule_p => k_is)
    (case nx_BadTable_things_p => k_is)
    (case a0 => k_is)
    (case ty0 => k_is)
    (case l0 => k_is)
    (case c0 => k_is)
    (case oe0 => k_is)
    (case rv0 => first | rfl | decide)
    (case sa_BadTable => k_is)
    (case tC_BadTable => k_is)
    (case kc_BadTable => k_is)
    (case ce0 => k_is)
    (case co0 => k_is)
    (case vf0 => rfl)
    (case fl0 => first | rfl | decide +kernel)
    (case tp => first | rfl | decide +kernel)
    (case su0 => first | ks_is | kernel_rfl)
    (case ve_BadTable => k_is)
    (case mr_BadTable => k_is)
    (case z_super => k_is)
    (case oq_0 => k_is)
    (case x1 => k_is)
    (case l1 => k_is)
    (case c1 => k_is)
    (case k1 => k_is)
    (case x2 => k_is)
    (case l2 => k_is)
    (case c2 => k_is)
    (case k2 => k_is)
    (case x3 => k_is)
    (case l3 => k_is)
    (case c3 => k_is)
    (case k3 => k_is)
    (case x4 => k_is)
    (case l4 => k_is)
    (case c4 => k_is)
    (case k4 => k_is)
    (case x5 => k_is)
    (case l5 => k_is)
    (case c5 => k_is)
    (case k5 => k_is)
    (case x6 => k_is)
    (case l6 => k_is)
    (case c6 => k_is)
    (case k6 => k_is)
    (case x7 => k_is)
    (case l7 => k_is)
    (case c7 => k_is)
    (case k7 => k_is)
    (case x8 => k_is)
    (case l8 => k_is)
    (case c8 => k_is)
    (case k8 => k_is)
    (case x9 => k_is)
    (case l9 => k_is)
    (case c9 => k_is)
    (case k9 => k_is)
    (case x10 => k_is)
    (case l10 => k_is)
    (case c10 => k_is)
    (case k10 => k_is)
    (case x11 => k_is)
    (case l11 => k_is)
    (case c11 => k_is)
    (case k11 => k_is)
    (case x12 => k_is)
    (case l12 => k_is)
    (case c12 => k_is)
    (case k12 => k_is)
    (case x13 => k_is)
    (case l13 => k_is)
    (case c13 => k_is)
    (case k13 => k_is)
    (case x14 => k_is)
    (case l14 => k_is)
    (case c14 => k_is)
    (case k14 => k_is)
    (case x15 => k_is)
    (case l15 => k_is)
    (case c15 => k_is)
    (case k15 => k_is)
    (case x16 => k_is)
    (case l16 => k_is)
    (case c16 => k_is)
    (case k16 => k_is)
    (case x17 => k_is)
    (case l17 => k_is)
    (case c17 => k_is)
    (case k17 => k_is)
    (case x18 => k_is)
    (case l18 => k_is)
    (case c18 => k_is)
    (case k18 => k_is)
    (case a19 => k_is)
    (case i19 => k_is)
    (case mk_Table => k_is)
    (case kc_Table => k_is)
    (case l19 => k_is)
    (case c19 => k_is)
    (case k19 => k_is)
    (case a20 => k_is)
    (case i20 => k_is)
    (case l20 => k_is)
    (case c20 => k_is)
    (case k20 => k_is)
    (case a21 => k_is)
    (case i21 => k_is)
    (case l21 => k_is)
    (case c21 => k_is)
    (case k21 => k_is)
    (case x22 => k_is)
    (case l22 => k_is)
    (case c22 => k_is)
    (case k22 => k_is)
    (case a23 => k_is)
    (case i23 => k_is)
    (case l23 => k_is)
    (case c23 => k_is)
    (case k23 => k_is)
    (case a24 => k_is)
    (case i24 => k_is)
    (case l24 => k_is)
    (case c24 => k_is)
    (case k24 => k_is)
    (case a25 => k_is)
    (case i25 => k_is)
    (case l25 => k_is)
    (case c25 => k_is)
    (case k25 => k_is)
    (case x26 => k_is)
    (case l26 => k_is)
    (case c26 => k_is)
    (case k26 => k_is)
    (case x27 => k_is)
    (case l27 => k_is)
    (case c27 => k_is)
    (case k27 => k_is)
    (case z_ValueError => k_is)
    (case z_abs => k_is)
    (case z_all => k_is)
    (case z_bool => k_is)
    (case z_int => k_is)
    (case z_isinstance => k_is)
    (case z_len => k_is)
    (case z_list => k_is)
    (case z_max => k_is)
    (case z_min => k_is)
    (case z_range => k_is)
    (case z_str => k_is)
    (case z_tuple => k_is)
    (case g_RULES => k_is)
    (case d_q_RULES => k_is)
    (case d_q_RULES_0 => k_is)
    (case d_q_RULES_1 => k_is)
    (case d_q_RULES_2 => k_is)
    (case d_q_RULES_3 => k_is)
    (case d_q_RULES_4 => k_is)
    (case d_q_RULES_5 => k_is)
    (case d_q_RULES_6 => k_is)
    (case d_q_RULES_7 => k_is)
    (case d_q_RULES_8 => k_is)
