import PyProof.Rows.All
import HandS.ForMost
import HandS.TupAny
import HandS.Conv
import HandS.IsInst
import HandS.Flow
import HandS.Exc
import HandS.Dict
import HandS.TupLe
import HandS.Codes
import PyProof.StrLawsRepr
import HandS.Zip
import KE.SortData
import HandS.SortInts
import HandS.DictComp
import HandS.TupSets
import PySem.Challenge.RW_everyreason_k31_whole_games
set_option Elab.async false
set_option linter.all false
set_option maxRecDepth 100000
set_option maxHeartbeats 4000000
namespace DL
open PySem PySem.Spec PyProof.Rows L2

abbrev D := PyData

/-- trees of what a text does: an answer, nothing known, a draw -/
inductive T (α : Type) where
  | ret (a : α)
  | stop
  | draw (n : Int) (k : Int → T α)

namespace T
def bind {α β : Type} : T α → (α → T β) → T β
  | .ret a, f => f a
  | .stop, _ => .stop
  | .draw n k, f => .draw n fun i => bind (k i) f
def wp {α : Type} : T α → (α → Prop) → Prop
  | .ret a, Q => Q a
  | .stop, _ => False
  | .draw n k, Q => 0 < n ∧ ∀ i, 0 ≤ i → i < n → wp (k i) Q
theorem wp_bind {α β : Type} (t : T α) (f : α → T β) (Q : β → Prop) : wp (bind t f) Q ↔ wp t fun a => wp (f a) Q := by
  induction t with
  | ret a => exact Iff.rfl
  | stop => exact Iff.rfl
  | draw n k ih =>
    constructor
    · rintro ⟨h, q⟩; exact ⟨h, fun i h0 h1 => (ih i).mp (q i h0 h1)⟩
    · rintro ⟨h, q⟩; exact ⟨h, fun i h0 h1 => (ih i).mpr (q i h0 h1)⟩
theorem wp_mono {α : Type} {t : T α} {Q Q' : α → Prop} (h : wp t Q) (m : ∀ a, Q a → Q' a) : wp t Q' := by
  induction t with
  | ret a => exact m a h
  | stop => exact h
  | draw n k ih => exact ⟨h.1, fun i h0 h1 => ih i (h.2 i h0 h1)⟩
theorem bind_assoc {α β γ : Type} (t : T α) (f : α → T β) (g : β → T γ) : bind (bind t f) g = bind t fun a => bind (f a) g := by
  induction t with
  | ret a => rfl
  | stop => rfl
  | draw n k ih => exact congrArg (T.draw n) (funext fun i => ih i)
@[simp] theorem bind_ret {α β : Type} (a : α) (f : α → T β) : bind (.ret a) f = f a := rfl
@[simp] theorem bind_stop {α β : Type} (f : α → T β) : bind (.stop : T α) f = .stop := rfl
theorem bind_id {α : Type} (t : T α) : bind t .ret = t := by
  induction t with
  | ret a => rfl
  | stop => rfl
  | draw n k ih => exact congrArg (T.draw n) (funext fun i => ih i)
end T

/-! ### data in the heap -/
def keyD : Key → D
  | .inl i => .int i
  | .inr x => .str x
mutual
inductive Rep (K : PySem.W.Frag) (F : Hp) : V → D → Prop
  | non : Rep K F .non .none
  | bl (b : Bool) : Rep K F (.bl b) (.bool b)
  | int (i : Int) : Rep K F (.int i) (.int i)
  | str (x : Str) : Rep K F (.str x) (.str x)
  | lst {a : Addr} {xs : List V} {ds : List D} : F a = some (.lst xs) → Reps K F xs ds → Rep K F (.ref a) (.list ds)
  | tup {a : Addr} {xs : List V} {ds : List D} : SqT K F a xs → Reps K F xs ds → Rep K F (.ref a) (.tuple ds)
  | dic {a : Addr} {kvs : List (Key × V)} {ds : List (D × D)} : F a = some (.dK kvs) → RepK K F kvs ds → Rep K F (.ref a) (.dict ds)
inductive Reps (K : PySem.W.Frag) (F : Hp) : List V → List D → Prop
  | nil : Reps K F [] []
  | cons {v : V} {vs : List V} {d : D} {ds : List D} : Rep K F v d → Reps K F vs ds → Reps K F (v :: vs) (d :: ds)
inductive RepK (K : PySem.W.Frag) (F : Hp) : List (Key × V) → List (D × D) → Prop
  | nil : RepK K F [] []
  | cons {k : Key} {v : V} {vs : List (Key × V)} {d : D} {ds : List (D × D)} : Rep K F v d → RepK K F vs ds → RepK K F ((k, v) :: vs) ((keyD k, d) :: ds)
end
section
variable {K : PySem.W.Frag} {F F' H H' : Hp}
theorem seqT_of (e : Same H H') {a : Addr} {xs : List V} (h : SqT K H a xs) : SqT K H' a xs := by
  rcases h with (h | ⟨o, h⟩) | h
  · exact .inl (.inl (e _ _ h))
  · exact .inl (.inr ⟨o, e _ _ h⟩)
  · exact .inr h
mutual
theorem Rep.mono (e : Same F F') : ∀ {v : V} {d : D}, Rep K F v d → Rep K F' v d
  | _, _, .non => .non
  | _, _, .bl b => .bl b
  | _, _, .int i => .int i
  | _, _, .str x => .str x
  | _, _, .lst h r => .lst (e _ _ h) (Reps.mono e r)
  | _, _, .tup h r => .tup (seqT_of e h) (Reps.mono e r)
  | _, _, .dic h r => .dic (e _ _ h) (RepK.mono e r)
theorem Reps.mono (e : Same F F') : ∀ {v : List V} {d : List D}, Reps K F v d → Reps K F' v d
  | _, _, .nil => .nil
  | _, _, .cons h r => .cons (Rep.mono e h) (Reps.mono e r)
theorem RepK.mono (e : Same F F') : ∀ {v : List (Key × V)} {d : List (D × D)}, RepK K F v d → RepK K F' v d
  | _, _, .nil => .nil
  | _, _, .cons h r => .cons (Rep.mono e h) (RepK.mono e r)
end
theorem Reps.len : ∀ {v : List V} {d : List D}, Reps K F v d → v.length = d.length
  | _, _, .nil => rfl
  | _, _, .cons _ r => congrArg (· + 1) (Reps.len r)
theorem Reps.append : ∀ {v w : List V} {d e : List D}, Reps K F v d → Reps K F w e → Reps K F (v ++ w) (d ++ e)
  | _, _, _, _, .nil, s => s
  | _, _, _, _, .cons h r, s => .cons h (Reps.append r s)
theorem Reps.take : ∀ {v : List V} {d : List D} (n : Nat), Reps K F v d → Reps K F (v.take n) (d.take n)
  | _, _, 0, _ => .nil
  | _, _, _ + 1, .nil => .nil
  | _, _, n + 1, .cons h r => .cons h (Reps.take n r)
theorem Reps.drop : ∀ {v : List V} {d : List D} (n : Nat), Reps K F v d → Reps K F (v.drop n) (d.drop n)
  | _, _, 0, h => h
  | _, _, _ + 1, .nil => .nil
  | _, _, n + 1, .cons _ r => Reps.drop n r
theorem Reps.get : ∀ {v : List V} {d : List D} {i : Nat} {x : V}, Reps K F v d → v[i]? = some x → ∃ y, d[i]? = some y ∧ Rep K F x y
  | _, _, _, _, .nil, e => by simp at e
  | _, _, 0, _, .cons h _, e => by simp at e; subst e; exact ⟨_, rfl, h⟩
  | _, _, i + 1, x, .cons _ r, e => by
    obtain ⟨y, h1, h2⟩ := Reps.get (i := i) (x := x) r (by simpa using e)
    exact ⟨y, by simpa using h1, h2⟩
theorem Reps.getD : ∀ {v : List V} {d : List D} {i : Nat} {y : D}, Reps K F v d → d[i]? = some y → ∃ x, v[i]? = some x ∧ Rep K F x y
  | _, _, _, _, .nil, e => by simp at e
  | _, _, 0, _, .cons h _, e => by simp at e; subst e; exact ⟨_, rfl, h⟩
  | _, _, i + 1, y, .cons _ r, e => by
    obtain ⟨x, h1, h2⟩ := Reps.getD (i := i) (y := y) r (by simpa using e)
    exact ⟨x, by simpa using h1, h2⟩
theorem Reps.set : ∀ {v : List V} {d : List D} (i : Nat) {x : V} {y : D}, Reps K F v d → Rep K F x y → Reps K F (v.set i x) (d.set i y)
  | _, _, _, _, _, .nil, _ => .nil
  | _, _, 0, _, _, .cons _ r, s => .cons s r
  | _, _, i + 1, _, _, .cons h r, s => .cons h (Reps.set i r s)
theorem Reps.reverse {v : List V} {d : List D} (h : Reps K F v d) : Reps K F v.reverse d.reverse := by
  induction h using Reps.rec (motive_1 := fun _ _ _ => True) (motive_3 := fun _ _ _ => True) with
  | nil => exact .nil
  | cons h r _ ih => rw [List.reverse_cons, List.reverse_cons]; exact ih.append (.cons h .nil)
  | _ => trivial
end

/-! ### objects of one's own, results, slots -/
inductive O where
  | lst (ds : List D)
  | dic (kvs : List (Key × D))
  | rng (lo hi : Int)
  | bor (a : Addr) (kvs : List (Key × D))
  | pool
inductive R where
  | v (d : D)
  | o (x : O)
  | s (i : Nat)
inductive Sl where
  | u
  | v (d : D)
  | o (x : O)
abbrev Env := List Sl
abbrev M := Env → T (R × List Nat)
abbrev MT := Env → T (Bool × List Nat)
def O.toD : O → Option D
  | .lst ds => some (.list ds)
  | .dic kvs => some (.dict (kvs.map fun p => (keyD p.1, p.2)))
  | .rng _ _ => none
  | .bor _ kvs => some (.dict (kvs.map fun p => (keyD p.1, p.2)))
  | .pool => none
/-- what is known of the one object that callers and callees share (the draws' own list; a table of what was found) -/
class ShObj where
  inv : Hp → Hp → Addr → Addr → Prop
  mono : ∀ {F F' H H' : Hp} {a s : Addr}, inv F H a s → Same F F' → (∀ o, H a = some o → H' a = some o) → inv F' H' a s
  there : ∀ {F H : Hp} {a s : Addr}, inv F H a s → ∃ o, H a = some o
  back : ∀ {F F' H H' : Hp} {a s : Addr}, inv F H a s → inv F' H' a s → Same F F' → inv F H' a s
def PoolS [ShObj] (F H : Hp) (a s : Addr) : Prop := ShObj.inv F H a s
variable [ShObj]
def Own (K : PySem.W.Frag) (F H : Hp) (a : Addr) : O → Prop
  | .lst ds => ∃ vs, H a = some (.lst vs) ∧ Reps K F vs ds
  | .dic kvs => ∃ vs, H a = some (.dK vs) ∧ RepK K F vs (kvs.map fun p => (keyD p.1, p.2))
  | .rng lo hi => H a = some (.rng lo hi)
  | .bor b kvs => a = b ∧ ∃ vs, H a = some (.dK vs) ∧ RepK K F vs (kvs.map fun p => (keyD p.1, p.2))
  | .pool => ∃ s, PoolS F H a s
end DL

namespace DL
open PySem PySem.Spec PyProof.Rows L2
variable [ShObj]

/-! ### freezing -/
def frz1 (σ : Env) (i : Nat) : Env := match σ[i]? with
  | some (.o x) => (match x.toD with | some d => σ.set i (.v d) | none => σ)
  | _ => σ
def frz (σ : Env) : List Nat → Env
  | [] => σ
  | i :: k => frz (frz1 σ i) k
@[simp] theorem frz_nil (σ : Env) : frz σ [] = σ := rfl
theorem frz_append (σ : Env) : ∀ k l : List Nat, frz σ (k ++ l) = frz (frz σ k) l := by
  intro k
  induction k generalizing σ with
  | nil => intro l; rfl
  | cons i k ih => intro l; exact ih (frz1 σ i) l
theorem frz1_len (σ : Env) (i : Nat) : (frz1 σ i).length = σ.length := by
  unfold frz1
  split
  · split
    · exact List.length_set
    · rfl
  · rfl
/-- what a slot of the frozen one is -/
theorem frz1_get {σ : Env} {i j : Nat} : (frz1 σ i)[j]? = σ[j]? ∨ (j = i ∧ ∃ x d, σ[j]? = some (.o x) ∧ x.toD = some d ∧ (frz1 σ i)[j]? = some (.v d)) := by
  unfold frz1
  split
  · rename_i x hx
    split
    · rename_i d hd
      by_cases e : j = i
      · subst e
        refine .inr ⟨rfl, x, d, hx, hd, ?_⟩
        have hlt : j < σ.length := (List.getElem?_eq_some_iff.mp hx).1
        rw [List.getElem?_set_self hlt]
      · exact .inl (List.getElem?_set_ne (Ne.symm e))
    · exact .inl rfl
  · exact .inl rfl
theorem frz1_own {σ : Env} {i j : Nat} {x : O} (h : (frz1 σ i)[j]? = some (.o x)) : σ[j]? = some (.o x) := by
  rcases frz1_get (σ := σ) (i := i) (j := j) with e | ⟨_, y, d, _, _, e⟩
  · rw [← e]; exact h
  · rw [e] at h; cases h
theorem frz_own {σ : Env} {k : List Nat} {j : Nat} {x : O} (h : (frz σ k)[j]? = some (.o x)) : σ[j]? = some (.o x) := by
  induction k generalizing σ with
  | nil => exact h
  | cons i k ih => exact frz1_own (ih h)
theorem frz1_pool {σ : Env} {i j : Nat} (h : σ[j]? = some (.o .pool)) : (frz1 σ i)[j]? = some (.o .pool) := by
  rcases frz1_get (σ := σ) (i := i) (j := j) with e | ⟨_, y, d, hy, hd, e⟩
  · rw [e]; exact h
  · rw [h] at hy; cases hy; cases hd
theorem frz_pool {σ : Env} {k : List Nat} {j : Nat} (h : σ[j]? = some (.o .pool)) : (frz σ k)[j]? = some (.o .pool) := by
  induction k generalizing σ with
  | nil => exact h
  | cons i k ih => exact ih (frz1_pool h)

/-! ### states -/
structure Hd (K : PySem.W.Frag) (F H : Hp) (σV : L2.St) (σ : Env) : Prop where
  le : Same F H
  len : σV.length = σ.length
  val : ∀ (i : Nat) (d : D), σ[i]? = some (.v d) → ∃ v, σV[i]? = some (some v) ∧ Rep K F v d
  own : ∀ (i : Nat) (x : O), σ[i]? = some (.o x) → ∃ a, σV[i]? = some (some (.ref a)) ∧ F a = none ∧ Own K F H a x
  dis : ∀ (i j : Nat) (x y : O), i ≠ j → σ[i]? = some (.o x) → σ[j]? = some (.o y) → σV[i]? ≠ σV[j]?
def NoOwn (σ : Env) (σV : L2.St) (a : Addr) : Prop := ∀ (i : Nat) (x : O), σ[i]? = some (.o x) → σV[i]? ≠ some (some (.ref a))
structure G (F : Hp) (σ : Env) (σV : L2.St) (H : Hp) (F' : Hp) (σ' : Env) (σV' : L2.St) (H' : Hp) : Prop where
  ff : Same F F'
  nf : ∀ a o, H a = some o → NoOwn σ σV a → F' a = F a
  fr : ∀ a o, H a = some o → NoOwn σ σV a → H' a = some o
  ow : ∀ (i : Nat) (x : O) (a : Addr), σ'[i]? = some (.o x) → σV'[i]? = some (some (.ref a)) → H a = none ∨ ¬ NoOwn σ σV a
  pl : ∀ (i : Nat), σ[i]? = some (.o .pool) → σ'[i]? = some (.o .pool) ∧ σV'[i]? = σV[i]? ∧ ∀ a s, σV[i]? = some (some (.ref a)) → PoolS F H a s → PoolS F' H' a s
  th : ∀ a o, H a = some o → ∃ u, H' a = some u
structure Grow (F H F' H' : Hp) : Prop where
  ff : Same F F'
  fh : Same F' H'
  hh : Same H H'
  nw : ∀ a o, H a = some o → F' a = F a
section
variable {K : PySem.W.Frag} {F F' F1 F2 H H' H1 H2 : Hp} {σ σ' σ1 σ2 : Env} {σV σV' σV1 σV2 : L2.St} {a : Addr} {x : O} {d : D} {v : V}
theorem Own.there (h : Own K F H a x) : ∃ o, H a = some o := by
  cases x with
  | lst ds => obtain ⟨vs, e, _⟩ := h; exact ⟨_, e⟩
  | dic kvs => obtain ⟨vs, e, _⟩ := h; exact ⟨_, e⟩
  | rng lo hi => exact ⟨_, h⟩
  | bor b kvs => obtain ⟨_, vs, e, _⟩ := h; exact ⟨_, e⟩
  | pool => obtain ⟨_, h⟩ := h; exact ShObj.there h
theorem Own.mono (h : Own K F H a x) (e : Same F F') (k : ∀ o, H a = some o → H' a = some o) : Own K F' H' a x := by
  cases x with
  | lst ds => obtain ⟨vs, e1, r⟩ := h; exact ⟨vs, k _ e1, r.mono e⟩
  | dic kvs => obtain ⟨vs, e1, r⟩ := h; exact ⟨vs, k _ e1, r.mono e⟩
  | rng lo hi => exact k _ h
  | bor b kvs => obtain ⟨e0, vs, e1, r⟩ := h; exact ⟨e0, vs, k _ e1, r.mono e⟩
  | pool => obtain ⟨s, h⟩ := h; exact ⟨s, ShObj.mono h e k⟩
theorem Own.rep (h : Own K F H a x) (hd : x.toD = some d) (e : Same F F') (k : ∀ o, H a = some o → F' a = some o) : Rep K F' (.ref a) d := by
  cases x with
  | lst ds => obtain ⟨vs, e1, r⟩ := h; cases hd; exact .lst (k _ e1) (r.mono e)
  | dic kvs => obtain ⟨vs, e1, r⟩ := h; cases hd; exact .dic (k _ e1) (r.mono e)
  | rng lo hi => cases hd
  | bor b kvs => obtain ⟨_, vs, e1, r⟩ := h; cases hd; exact .dic (k _ e1) (r.mono e)
  | pool => cases hd
theorem Grow.refl (h : Same F H) : Grow F H F H := ⟨Same.refl _, h, Same.refl _, fun _ _ _ => rfl⟩
theorem Grow.trans (g : Grow F H F1 H1) (g' : Grow F1 H1 F2 H2) : Grow F H F2 H2 :=
  ⟨g.ff.trans g'.ff, g'.fh, g.hh.trans g'.hh, fun a o e => (g'.nw a o (g.hh _ _ e)).trans (g.nw a o e)⟩
theorem same_new {p : Addr} {o : HO} (h : H p = none) : Same H (upd H p o) := fun b u e => by
  rw [upd_ne (ne_of_none e h)]; exact e
/-- a new frozen object -/
theorem Grow.new {p : Addr} {o : HO} (h : Same F H) (hp : H p = none) : Grow F H (upd F p o) (upd H p o) where
  ff := same_new (h.free hp)
  fh := fun b u e => by
    by_cases q : b = p
    · subst q; rw [upd_same] at e; rw [upd_same]; exact e
    · rw [upd_ne q] at e; rw [upd_ne q]; exact h _ _ e
  hh := same_new hp
  nw := fun b u e => upd_ne (ne_of_none e hp)
/-- a new object of one's own -/
theorem Grow.newO {p : Addr} {o : HO} (h : Same F H) (hp : H p = none) : Grow F H F (upd H p o) :=
  ⟨Same.refl _, h.trans (same_new hp), same_new hp, fun _ _ _ => rfl⟩
theorem Hd.grow (s : Hd K F H σV σ) (g : Grow F H F' H') : Hd K F' H' σV σ where
  le := g.fh
  len := s.len
  val := fun i d e => by obtain ⟨v, h1, h2⟩ := s.val i d e; exact ⟨v, h1, h2.mono g.ff⟩
  own := fun i x e => by
    obtain ⟨a, h1, h2, h3⟩ := s.own i x e
    obtain ⟨o, ho⟩ := h3.there
    exact ⟨a, h1, (g.nw _ _ ho).trans h2, h3.mono g.ff fun o' e' => g.hh _ _ e'⟩
  dis := s.dis
theorem PoolS.mono {s : Addr} (h : PoolS F H a s) (e : Same F F') (k : ∀ o, H a = some o → H' a = some o) : PoolS F' H' a s := ShObj.mono h e k
theorem own_no {i : Nat} (e : σ[i]? = some (.o x)) (h : σV[i]? = some (some (.ref a))) : ¬ NoOwn σ σV a := fun no => no i x e h
theorem NoOwn.frz {k : List Nat} (h : NoOwn σ σV a) : NoOwn (frz σ k) σV a := fun i x e => h i x (frz_own e)
theorem G.refl : G F σ σV H F σ σV H := ⟨Same.refl _, fun _ _ _ _ => rfl, fun _ _ e _ => e, fun i x a e h => .inr (own_no e h), fun _ e => ⟨e, rfl, fun _ _ _ q => q⟩, fun _ o e => ⟨o, e⟩⟩
theorem G.same (g : Grow F H F' H') : G F σ σV H F' σ σV H' := ⟨g.ff, fun a o h _ => g.nw a o h, fun _ _ h _ => g.hh _ _ h, fun i x a e h => .inr (own_no e h), fun _ e => ⟨e, rfl, fun _ _ _ q => q.mono g.ff fun _ z => g.hh _ _ z⟩, fun _ o h => ⟨o, g.hh _ _ h⟩⟩
theorem G.trans (g : G F σ σV H F1 σ1 σV1 H1) (g' : G F1 σ1 σV1 H1 F2 σ2 σV2 H2) : G F σ σV H F2 σ2 σV2 H2 := by
  have no : ∀ a o, H a = some o → NoOwn σ σV a → NoOwn σ1 σV1 a := fun a o e h i x hi hV => by
    rcases g.ow i x a hi hV with z | z
    · rw [e] at z; cases z
    · exact z h
  refine ⟨g.ff.trans g'.ff, fun a o e h => (g'.nf a o (g.fr a o e h) (no a o e h)).trans (g.nf a o e h), fun a o e h => g'.fr a o (g.fr a o e h) (no a o e h), fun i x a hi hV => ?_,
    fun i e => ⟨(g'.pl i (g.pl i e).1).1, ((g'.pl i (g.pl i e).1).2.1).trans (g.pl i e).2.1, fun a s hV q => (g'.pl i (g.pl i e).1).2.2 a s ((g.pl i e).2.1.trans hV) ((g.pl i e).2.2 a s hV q)⟩, fun a o e => let ⟨u, hu⟩ := g.th a o e; g'.th a u hu⟩
  rcases g'.ow i x a hi hV with z | z
  · by_cases n : NoOwn σ σV a
    · refine .inl ?_
      cases e : H a with
      | none => rfl
      | some o =>
        have := g.fr a o e n
        rw [z] at this; cases this
    · exact .inr n
  · by_cases n : NoOwn σ σV a
    · refine .inl ?_
      cases e : H a with
      | none => rfl
      | some o => exact absurd (no a o e n) z
    · exact .inr n
/-- an address frozen as it stands -/
def put (F H : Hp) (a : Addr) : Hp := fun b => if b = a then H a else F b
theorem put_same : put F H a a = H a := if_pos rfl
theorem put_ne {b : Addr} (h : b ≠ a) : put F H a b = F b := if_neg h
theorem same_put (h : Same F H) : Same F (put F H a) := fun b o e => by
  by_cases q : b = a
  · subst q; rw [put_same]; exact h _ _ e
  · rw [put_ne q]; exact e
theorem put_le (h : Same F H) : Same (put F H a) H := fun b o e => by
  by_cases q : b = a
  · subst q; rw [put_same] at e; exact e
  · rw [put_ne q] at e; exact h _ _ e
/-- freeze an address that no slot holds (but those of value) -/
theorem Hd.put (s : Hd K F H σV σ) (no : NoOwn σ σV a) : Hd K (put F H a) H σV σ where
  le := put_le s.le
  len := s.len
  val := fun i d e => by obtain ⟨v, h1, h2⟩ := s.val i d e; exact ⟨v, h1, h2.mono (same_put s.le)⟩
  own := fun i x e => by
    obtain ⟨b, h1, h2, h3⟩ := s.own i x e
    have hb : b ≠ a := fun z => no i x e (by rw [h1, z])
    exact ⟨b, h1, by rw [put_ne hb]; exact h2, h3.mono (same_put s.le) fun _ q => q⟩
  dis := s.dis
/-- from one frozen part to a wider one: only what slots held, and what was not there at H0 -/
def Wid (H0 : Hp) (σ : Env) (σV : L2.St) (F F' : Hp) : Prop := Same F F' ∧ ∀ a o, H0 a = some o → NoOwn σ σV a → F' a = F a
theorem Wid.refl : Wid H0 σ σV F F := ⟨Same.refl _, fun _ _ _ _ => rfl⟩
theorem Wid.trans (h : Wid H0 σ σV F F1) (h' : Wid H0 σ1 σV F1 F2) (no : ∀ a, NoOwn σ σV a → NoOwn σ1 σV a) : Wid H0 σ σV F F2 :=
  ⟨h.1.trans h'.1, fun a o e n => (h'.2 a o e (no a n)).trans (h.2 a o e n)⟩
/-- freeze a slot -/
theorem Hd.frz1 (s : Hd K F H σV σ) (i : Nat) : ∃ F', Wid H0 σ σV F F' ∧ Hd K F' H σV (frz1 σ i) := by
  by_cases h : ∃ (x : O) (d : D), σ[i]? = some (.o x) ∧ x.toD = some d
  · obtain ⟨x, d, hx, hd⟩ := h
    obtain ⟨a, h1, h2, h3⟩ := s.own i x hx
    refine ⟨DL.put F H a, ⟨same_put s.le, fun b o _ no => put_ne fun z => no i x hx (by rw [h1, z])⟩, ?_⟩
    have hlt : i < σ.length := (List.getElem?_eq_some_iff.mp hx).1
    have e : DL.frz1 σ i = σ.set i (.v d) := by unfold DL.frz1; rw [hx]; simp only [hd]
    have other : ∀ j, j ≠ i → (σ.set i (.v d))[j]? = σ[j]? := fun j hj => List.getElem?_set_ne (Ne.symm hj)
    rw [e]
    refine ⟨put_le s.le, by rw [s.len, List.length_set], fun j dd ej => ?_, fun j y ej => ?_, fun j k y z hjk ej ek => ?_⟩
    · by_cases hj : j = i
      · subst hj
        rw [List.getElem?_set_self hlt] at ej
        cases ej
        exact ⟨_, h1, h3.rep hd (same_put s.le) fun o ho => by rw [put_same]; exact ho⟩
      · rw [other j hj] at ej
        obtain ⟨v, q1, q2⟩ := s.val j dd ej
        exact ⟨v, q1, q2.mono (same_put s.le)⟩
    · by_cases hj : j = i
      · subst hj
        rw [List.getElem?_set_self hlt] at ej
        cases ej
      · rw [other j hj] at ej
        obtain ⟨b, q1, q2, q3⟩ := s.own j y ej
        have hb : b ≠ a := fun z => s.dis j i y x hj ej hx (by rw [q1, h1, z])
        exact ⟨b, q1, by rw [put_ne hb]; exact q2, q3.mono (same_put s.le) fun _ q => q⟩
    · have ne : ∀ m w, (σ.set i (.v d))[m]? = some (.o w) → m ≠ i := fun m w hm z => by
        subst z
        rw [List.getElem?_set_self hlt] at hm
        cases hm
      rw [other j (ne j y ej)] at ej
      rw [other k (ne k z ek)] at ek
      exact s.dis j k y z hjk ej ek
  · refine ⟨F, Wid.refl, ?_⟩
    have e : DL.frz1 σ i = σ := by
      unfold DL.frz1
      split
      · rename_i x hx
        split
        · rename_i d hd
          exact absurd ⟨x, d, hx, hd⟩ h
        · rfl
      · rfl
    rw [e]; exact s
theorem Hd.frz (s : Hd K F H σV σ) (k : List Nat) : ∃ F', Wid H0 σ σV F F' ∧ Hd K F' H σV (frz σ k) := by
  induction k generalizing F σ with
  | nil => exact ⟨F, Wid.refl, s⟩
  | cons i k ih =>
    obtain ⟨F1, e1, s1⟩ := s.frz1 i
    obtain ⟨F2, e2, s2⟩ := ih s1
    exact ⟨F2, e1.trans e2 fun a n => n.frz (k := [i]), s2⟩
/-- what came before, then a widening -/
theorem G.wid {k l : List Nat} (g : G F σ σV H F1 (DL.frz σ k) σV H1) (w : Wid H (DL.frz σ k) σV F1 F2) : G F σ σV H F2 (DL.frz (DL.frz σ k) l) σV H1 where
  ff := g.ff.trans w.1
  nf := fun a o e n => (w.2 a o e n.frz).trans (g.nf a o e n)
  fr := g.fr
  ow := fun i x a e h => g.ow i x a (frz_own e) h
  pl := fun i e => ⟨frz_pool (g.pl i e).1, (g.pl i e).2.1, fun a s hV q => ((g.pl i e).2.2 a s hV q).mono w.1 fun _ z => z⟩
  th := g.th
end

/-! ### results -/
/-- a result, held while other things are reckoned -/
inductive RW (K : PySem.W.Frag) (F H H0 : Hp) (σ : Env) (σV : L2.St) : V → R → Prop
  | v {v : V} {d : D} : Rep K F v d → RW K F H H0 σ σV v (.v d)
  | o {a : Addr} {x : O} : x ≠ .pool → H0 a = none → Own K F H a x → NoOwn σ σV a → RW K F H H0 σ σV (.ref a) (.o x)
  | s {v : V} {i : Nat} : σV[i]? = some (some v) → RW K F H H0 σ σV v (.s i)
/-- a result just made: H0 the heap before -/
inductive RR (K : PySem.W.Frag) (F H : Hp) (σV : L2.St) (H0 : Hp) : V → R → Prop
  | v {v : V} {d : D} : Rep K F v d → RR K F H σV H0 v (.v d)
  | o {a : Addr} {x : O} : x ≠ .pool → F a = none → H0 a = none → Own K F H a x → RR K F H σV H0 (.ref a) (.o x)
  | s {v : V} {i : Nat} : σV[i]? = some (some v) → RR K F H σV H0 v (.s i)
/-- of a rule on values -/
inductive R0 (K : PySem.W.Frag) (F H H0 : Hp) : V → R → Prop
  | v {v : V} {d : D} : Rep K F v d → R0 K F H H0 v (.v d)
  | o {a : Addr} {x : O} : x ≠ .pool → F a = none → H0 a = none → Own K F H a x → R0 K F H H0 (.ref a) (.o x)
def View (K : PySem.W.Frag) (F H : Hp) (v : V) (d : D) : Prop := Rep K F v d ∨ ∃ a x, v = .ref a ∧ Own K F H a x ∧ x.toD = some d
def O.d (x : O) : T D := match x.toD with | some d => .ret d | none => .stop
def look (σ : Env) : R → T D
  | .v d => .ret d
  | .o x => x.d
  | .s i => match σ[i]? with
    | some (.v d) => .ret d
    | some (.o x) => x.d
    | _ => .stop
section
variable {K : PySem.W.Frag} {F F' F1 F2 H H' H0 H1 H2 : Hp} {σ σ' σ1 σ2 : Env} {σV σV' σV1 σV2 : L2.St} {a : Addr} {x : O} {d : D} {v : V} {r : R}
theorem O.d_wp {Q : D → Prop} (h : (O.d x).wp Q) : ∃ d, x.toD = some d ∧ Q d := by
  unfold O.d at h
  cases e : x.toD with
  | none => rw [e] at h; exact h.elim
  | some d => rw [e] at h; exact ⟨d, rfl, h⟩
theorem RR.w (rr : RR K F' H' σV H v r) (s : Hd K F H σV σ) {k : List Nat} (th : ∀ a o, H0 a = some o → ∃ u, H a = some u) : RW K F' H' H0 (frz σ k) σV v r := by
  cases rr with
  | v h => exact .v h
  | o hp h1 h2 h3 =>
    rename_i a x
    refine .o hp ?_ h3 fun i y e q => ?_
    · cases q : H0 a with
      | none => rfl
      | some o =>
        obtain ⟨u, hu⟩ := th _ _ q
        rw [h2] at hu; cases hu
    · obtain ⟨b, e1, e2, e3⟩ := s.own i y (frz_own e)
      rw [q] at e1
      cases e1
      obtain ⟨o, ho⟩ := e3.there
      rw [h2] at ho; cases ho
  | s h => exact .s h
theorem RW.next (rr : RW K F1 H1 H0 σ1 σV v r) (g : G F1 σ1 σV H1 F2 σ2 σV H2) : RW K F2 H2 H0 σ2 σV v r := by
  cases rr with
  | v h => exact .v (h.mono g.ff)
  | o hp h0 h no =>
    obtain ⟨o, ho⟩ := h.there
    refine .o hp h0 (h.mono g.ff fun o ho => g.fr _ o ho no) fun i y hi q => ?_
    rcases g.ow i y _ hi q with z | z
    · rw [ho] at z; cases z
    · exact z no
  | s h => exact .s h
theorem look_view (rr : RW K F H H0 σ σV v r) (s : Hd K F H σV σ) {Q : D → Prop} (h : (look σ r).wp Q) : ∃ d, look σ r = .ret d ∧ View K F H v d ∧ Q d := by
  cases rr with
  | v hr => exact ⟨_, rfl, .inl hr, h⟩
  | o hp _ ho no =>
    obtain ⟨d, e, q⟩ := O.d_wp h
    exact ⟨d, by show O.d _ = _; unfold O.d; rw [e], .inr ⟨_, _, rfl, ho, e⟩, q⟩
  | s hV =>
    rename_i i
    unfold look at h ⊢
    cases e : σ[i]? with
    | none => simp only [e] at h; exact h.elim
    | some sl =>
      cases sl with
      | u => simp only [e] at h; exact h.elim
      | v d =>
        simp only [e] at h ⊢
        obtain ⟨w, h1, h2⟩ := s.val i d e
        rw [hV] at h1; cases h1
        exact ⟨d, rfl, .inl h2, h⟩
      | o x =>
        simp only [e] at h ⊢
        obtain ⟨d, ed, q⟩ := O.d_wp h
        obtain ⟨a, h1, h2, h3⟩ := s.own i x e
        rw [hV] at h1; cases h1
        exact ⟨d, by unfold O.d; rw [ed], .inr ⟨a, x, rfl, h3, ed⟩, q⟩
theorem R0.rr (h : R0 K F H H0 v r) : RR K F H σV H0 v r := by
  cases h with
  | v h => exact .v h
  | o hp a b c => exact .o hp a b c
theorem RR.base (h : RR K F H σV H1 v r) (e : ∀ a o, H0 a = some o → ∃ u, H1 a = some u) : RR K F H σV H0 v r := by
  cases h with
  | v h => exact .v h
  | o hp a b c =>
    refine .o hp a ?_ c
    rename_i p _
    cases q : H0 p with
    | none => rfl
    | some o =>
      obtain ⟨u, hu⟩ := e _ _ q
      rw [b] at hu; cases hu
  | s h => exact .s h
end
end DL

namespace DL
open PySem PySem.Spec PyProof.Rows L2
variable [ShObj]

theorem PE.imp {X : Cx} {e : Expr} {t t' : TE} (h : PE X e t) (m : ∀ σ H Q, t' σ H Q → t σ H Q) : PE X e t' := ⟨fun pins s σ H Q I q => h.run pins s σ H Q I (m σ H Q q)⟩
theorem PT.imp {X : Cx} {e : Expr} {t t' : TT} (h : PT X e t) (m : ∀ σ H Q, t' σ H Q → t σ H Q) : PT X e t' := ⟨fun pins s σ H Q I q => h.run pins s σ H Q I (m σ H Q q)⟩
theorem PW.imp {X : Cx} {e : Expr} {t t' : TT} (h : PW X e t) (m : ∀ σ H Q, t' σ H Q → t σ H Q) : PW X e t' := ⟨fun wh pins s σ H Q I q => h.run wh pins s σ H Q I (m σ H Q q)⟩
theorem PA.imp {X : Cx} {e : List Expr} {t t' : TA} (h : PA X e t) (m : ∀ σ H Q, t' σ H Q → t σ H Q) : PA X e t' := ⟨fun pos pins s σ H Q I q => h.run pos pins s σ H Q I (m σ H Q q)⟩
theorem PS.imp {X : Cx} {e : Stmt} {t t' : TS} (h : PS X e t) (m : ∀ D σ H, t' D σ H → t D σ H) : PS X e t' := ⟨fun pins s σ H D I q => h.run pins s σ H D I (m D σ H q)⟩
theorem PSs.imp {X : Cx} {e : List Stmt} {t t' : TS} (h : PSs X e t) (m : ∀ D σ H, t' D σ H → t D σ H) : PSs X e t' := ⟨fun pins s σ H D I q => h.run pins s σ H D I (m D σ H q)⟩

/-! ### the judgements' readings -/
def LE (K : PySem.W.Frag) (m : M) : TE := fun σV H Q => ∃ F σ, Hd K F H σV σ ∧ (m σ).wp fun p => ∀ v F' H', Hd K F' H' σV (frz σ p.2) → G F σ σV H F' (frz σ p.2) σV H' → RR K F' H' σV H v p.1 → Q v H'
def LT (K : PySem.W.Frag) (m : MT) : TT := fun σV H Q => ∃ F σ, Hd K F H σV σ ∧ (m σ).wp fun p => ∀ F' H', Hd K F' H' σV (frz σ p.2) → G F σ σV H F' (frz σ p.2) σV H' → Q p.1 H'
abbrev MA := Env → T (List R × List Nat)
inductive RWs (K : PySem.W.Frag) (F H H0 : Hp) (σ : Env) (σV : L2.St) : List V → List R → Prop
  | nil : RWs K F H H0 σ σV [] []
  | cons {v : V} {vs : List V} {r : R} {rs : List R} : RW K F H H0 σ σV v r → RWs K F H H0 σ σV vs rs → RWs K F H H0 σ σV (v :: vs) (r :: rs)
def LA (K : PySem.W.Frag) (m : MA) : TA := fun σV H Q => ∃ F σ, Hd K F H σV σ ∧ (m σ).wp fun p => ∀ vs F' H', Hd K F' H' σV (frz σ p.2) → G F σ σV H F' (frz σ p.2) σV H' → RWs K F' H' H (frz σ p.2) σV vs p.1 → Q vs H'
structure DE (m : M) (X : Cx) (e : Expr) : Prop where pe : PE X e (LE X.K m)
structure DT (m : MT) (X : Cx) (e : Expr) : Prop where pt : PT X e (LT X.K m)
structure DW (m : MT) (X : Cx) (e : Expr) : Prop where pw : PW X e (LT X.K m)
structure DA (m : MA) (X : Cx) (es : List Expr) : Prop where pa : PA X es (LA X.K m)

section
variable {K : PySem.W.Frag} {F F' F1 F2 H H' H0 H1 H2 : Hp} {σ σ' σ1 σ2 : Env} {σV σV' σV1 σV2 : L2.St} {Q : VK} {m ma mb : M} {p : R × List Nat}
/-- an expression, then what is done with its result -/
theorem LE.then {Q : VK} (s : Hd K F H σV σ) (h : (m σ).wp fun p => ∀ v F1 H1, Hd K F1 H1 σV (frz σ p.2) → G F σ σV H F1 (frz σ p.2) σV H1 → RR K F1 H1 σV H v p.1 → Q v H1) : LE K m σV H Q := ⟨F, σ, s, h⟩
theorem RWs.next {vs : List V} {rs : List R} (r : RWs K F1 H1 H0 σ1 σV vs rs) (g : G F1 σ1 σV H1 F2 σ2 σV H2) : RWs K F2 H2 H0 σ2 σV vs rs := by
  induction r with
  | nil => exact .nil
  | cons h _ ih => exact .cons (h.next g) ih

/-! ### names, constants -/
def mC (d : D) : M := fun _ => .ret (.v d, [])
def mVar (i : Nat) : M := fun σ => match σ[i]? with
  | some (.v d) => .ret (.v d, [])
  | some (.o _) => .ret (.s i, [])
  | _ => .stop
theorem mVar_le (h : LE K (mVar i) σV H Q) : tVar i σV H Q := by
  obtain ⟨F, σ, s, h⟩ := h
  unfold mVar at h
  cases e : σ[i]? with
  | none => simp only [e] at h; exact h.elim
  | some sl =>
    cases sl with
    | u => simp only [e] at h; exact h.elim
    | v d =>
      simp only [e] at h
      obtain ⟨v, h1, h2⟩ := s.val i d e
      exact ⟨v, h1, h v F H s G.refl (.v h2)⟩
    | o x =>
      simp only [e] at h
      obtain ⟨a, h1, h2, h3⟩ := s.own i x e
      exact ⟨.ref a, h1, h _ F H s G.refl (.s h1)⟩
theorem mC_le {v : V} {d : D} (hv : ∀ F, Rep K F v d) (h : LE K (mC d) σV H Q) : tC v σV H Q := by
  obtain ⟨F, σ, s, h⟩ := h
  exact h v F H s G.refl (.v (hv F))

/-! ### rules on values -/
def LR2 (K : PySem.W.Frag) (f : D → D → T R) : R2 := fun x y H Q => ∃ F d e, Same F H ∧ View K F H x d ∧ View K F H y e ∧ (f d e).wp fun r => ∀ v F' H', Grow F H F' H' → R0 K F' H' H v r → Q v H'
def LR1 (K : PySem.W.Frag) (f : D → T R) : V → Hp → VK → Prop := fun x H Q => ∃ F d, Same F H ∧ View K F H x d ∧ (f d).wp fun r => ∀ v F' H', Grow F H F' H' → R0 K F' H' H v r → Q v H'
inductive Views (K : PySem.W.Frag) (F H : Hp) : List V → List D → Prop
  | nil : Views K F H [] []
  | cons {v : V} {vs : List V} {d : D} {ds : List D} : View K F H v d → Views K F H vs ds → Views K F H (v :: vs) (d :: ds)
def LRn (K : PySem.W.Frag) (f : List D → T R) : List V → Hp → VK → Prop := fun xs H Q => ∃ F ds, Same F H ∧ Views K F H xs ds ∧ (f ds).wp fun r => ∀ v F' H', Grow F H F' H' → R0 K F' H' H v r → Q v H'
def OpD (X : Cx) (g : Value → Value → Sem Value) (f : D → D → T R) : Prop := OpR X g (LR2 X.K f)
def UnD (X : Cx) (g : Value → Sem Value) (f : D → T R) : Prop := UnR X g (LR1 X.K f)
def CallD (X : Cx) (g : Value) (f : List D → T R) : Prop := CallR X g (LRn X.K f)
theorem looks_views {rs : List R} {vs : List V} (r : RWs K F H H0 σ σV vs rs) (s : Hd K F H σV σ) :
    ∀ {Q : List D → Prop}, (rs.foldr (fun r t => (look σ r).bind fun d => t.bind fun ds => T.ret (d :: ds)) (T.ret [])).wp Q → ∃ ds, Views K F H vs ds ∧ Q ds := by
  induction r with
  | nil => intro Q h; exact ⟨[], .nil, h⟩
  | cons h r ih =>
    intro Q q
    rw [List.foldr_cons, T.wp_bind] at q
    obtain ⟨d, _, hv, q⟩ := look_view h s q
    rw [T.wp_bind] at q
    obtain ⟨ds, hvs, q⟩ := ih q
    exact ⟨d :: ds, .cons hv hvs, q⟩
def looks (σ : Env) (rs : List R) : T (List D) := rs.foldr (fun r t => (look σ r).bind fun d => t.bind fun ds => T.ret (d :: ds)) (T.ret [])

def mBin (f : D → D → T R) (ma mb : M) : M := fun σ => (ma σ).bind fun p => (mb (frz σ p.2)).bind fun q => (look (frz (frz σ p.2) q.2) p.1).bind fun x => (look (frz (frz σ p.2) q.2) q.1).bind fun y =>
  (f x y).bind fun r => .ret (r, p.2 ++ q.2)

/-- what follows a rule on values, in a state -/
theorem fin0 {r : R} {k : List Nat} {v : V} (s : Hd K F1 H1 σV (frz σ k)) (g : G F σ σV H F1 (frz σ k) σV H1) (gr : Grow F1 H1 F' H') (h : R0 K F' H' H1 v r)
    (hQ : ∀ v F' H', Hd K F' H' σV (frz σ k) → G F σ σV H F' (frz σ k) σV H' → RR K F' H' σV H v r → Q v H') : Q v H' :=
  hQ v F' H' (s.grow gr) (g.trans (G.same gr)) (h.rr.base g.th)
theorem mBin_le {f : D → D → T R} (h : LE K (mBin f ma mb) σV H Q) : tOp (LR2 K f) (LE K ma) (LE K mb) σV H Q := by
  obtain ⟨F, σ, s, h⟩ := h
  unfold mBin at h
  rw [T.wp_bind] at h
  refine LE.then s (T.wp_mono h fun p h x F1 H1 s1 g1 r1 => ?_)
  rw [T.wp_bind] at h
  refine LE.then s1 (T.wp_mono h fun q h y F2 H2 s2 g2 r2 => ?_)
  rw [T.wp_bind] at h
  obtain ⟨d, _, v1, h⟩ := look_view ((r1.w s (H0 := H) fun _ o e => ⟨o, e⟩).next g2) s2 h
  rw [T.wp_bind] at h
  obtain ⟨d2, _, v2, h⟩ := look_view (r2.w s1 (H0 := H1) fun _ o e => ⟨o, e⟩) s2 h
  rw [T.wp_bind] at h
  rw [← frz_append] at s2 g2
  exact ⟨F2, d, d2, s2.le, v1, v2, T.wp_mono h fun r h v F' H' gr h0 => fin0 s2 (g1.trans g2) gr h0 h⟩
def mUn (f : D → T R) (ma : M) : M := fun σ => (ma σ).bind fun p => (look (frz σ p.2) p.1).bind fun x => (f x).bind fun r => .ret (r, p.2)
theorem mUn_le {f : D → T R} (h : LE K (mUn f ma) σV H Q) : tUn (LR1 K f) (LE K ma) σV H Q := by
  obtain ⟨F, σ, s, h⟩ := h
  unfold mUn at h
  rw [T.wp_bind] at h
  refine LE.then s (T.wp_mono h fun p h x F1 H1 s1 g1 r1 => ?_)
  rw [T.wp_bind] at h
  obtain ⟨d, _, v1, h⟩ := look_view (r1.w s (H0 := H) fun _ o e => ⟨o, e⟩) s1 h
  rw [T.wp_bind] at h
  exact ⟨F1, d, s1.le, v1, T.wp_mono h fun r h v F' H' gr h0 => fin0 s1 g1 gr h0 h⟩
/-- argument lists -/
def mNil : MA := fun _ => .ret ([], [])
def mCons (ma : M) (mr : MA) : MA := fun σ => (ma σ).bind fun p => (mr (frz σ p.2)).bind fun q => .ret (p.1 :: q.1, p.2 ++ q.2)
def mB (f : List D → T R) (ms : MA) : M := fun σ => (ms σ).bind fun p => (looks (frz σ p.2) p.1).bind fun ds => (f ds).bind fun r => .ret (r, p.2)
theorem RWs.base {vs : List V} {rs : List R} (r : RWs K F1 H1 H σ1 σV vs rs) (th : ∀ a o, H0 a = some o → ∃ u, H a = some u) : RWs K F1 H1 H0 σ1 σV vs rs := by
  induction r with
  | nil => exact .nil
  | cons h _ ih =>
    refine .cons ?_ ih
    cases h with
    | v h => exact .v h
    | o hp h0 h no =>
      refine .o hp ?_ h no
      rename_i a _
      cases q : H0 a with
      | none => rfl
      | some o =>
        obtain ⟨u, hu⟩ := th _ _ q
        rw [h0] at hu; cases hu
    | s h => exact .s h
theorem mNil_la {Q : List V → Hp → Prop} (h : LA K mNil σV H Q) : tNil σV H Q := by
  obtain ⟨F, σ, s, h⟩ := h
  exact h [] F H s G.refl .nil
theorem mCons_la {mr : MA} {Q : List V → Hp → Prop} (h : LA K (mCons ma mr) σV H Q) : tCons (LE K ma) (LA K mr) σV H Q := by
  obtain ⟨F, σ, s, h⟩ := h
  unfold mCons at h
  rw [T.wp_bind] at h
  refine LE.then s (T.wp_mono h fun p h x F1 H1 s1 g1 r1 => ?_)
  rw [T.wp_bind] at h
  refine ⟨F1, _, s1, T.wp_mono h fun q h vs F2 H2 s2 g2 r2 => ?_⟩
  have h : ∀ vs F' H', Hd K F' H' σV (frz σ (p.2 ++ q.2)) → G F σ σV H F' (frz σ (p.2 ++ q.2)) σV H' → RWs K F' H' H (frz σ (p.2 ++ q.2)) σV vs (p.1 :: q.1) → Q vs H' := h
  rw [frz_append] at h
  exact h _ F2 H2 s2 (g1.trans g2) (.cons ((r1.w s (H0 := H) fun _ o e => ⟨o, e⟩).next g2) (r2.base g1.th))
theorem mB_le {f : List D → T R} {ms : MA} (h : LE K (mB f ms) σV H Q) : tCB (LRn K f) (LA K ms) σV H Q := by
  obtain ⟨F, σ, s, h⟩ := h
  unfold mB at h
  rw [T.wp_bind] at h
  refine ⟨F, σ, s, T.wp_mono h fun p h vs F1 H1 s1 g1 r1 => ?_⟩
  rw [T.wp_bind] at h
  obtain ⟨ds, v1, h⟩ := looks_views r1 s1 h
  rw [T.wp_bind] at h
  exact ⟨F1, ds, s1.le, v1, T.wp_mono h fun r h v F' H' gr h0 => fin0 s1 g1 gr h0 h⟩
end
end DL

namespace DL
open PySem PySem.Spec PyProof.Rows L2
variable [ShObj]

def slotsOf : R → List Nat
  | .s i => [i]
  | _ => []
def slotsAll (rs : List R) : List Nat := rs.flatMap slotsOf
def chk {α : Type} (n : Nat) (t : T α) : T α := if n ≤ 100000 then t else .stop
theorem chk_wp {α : Type} {n : Nat} {t : T α} {Q : α → Prop} (h : (chk n t).wp Q) : n ≤ sizeLine ∧ t.wp Q := by
  unfold chk at h
  split at h
  · rename_i hn; exact ⟨Nat.le_trans hn (by decide), h⟩
  · exact h.elim
theorem chk_ok {α : Type} {n : Nat} {t : T α} (h : n ≤ 100000) : chk n t = t := if_pos h
section
variable {K : PySem.W.Frag} {F F' F1 F2 H H' H0 H1 H2 : Hp} {σ σ' σ1 σ2 : Env} {σV σV' σV1 σV2 : L2.St} {Q : VK} {m ma mb : M} {v : V} {r : R} {d : D}
theorem look_frz1 (σ : Env) (i : Nat) (r : R) : look (frz1 σ i) r = look σ r := by
  cases r with
  | v d => rfl
  | o x => rfl
  | s j =>
    rcases frz1_get (σ := σ) (i := i) (j := j) with e | ⟨_, x, d, hx, hd, e⟩
    · show (match (frz1 σ i)[j]? with | some (.v d) => T.ret d | some (.o x) => x.d | _ => .stop) = (match σ[j]? with | some (.v d) => T.ret d | some (.o x) => x.d | _ => .stop)
      rw [e]
    · show (match (frz1 σ i)[j]? with | some (.v d) => T.ret d | some (.o x) => x.d | _ => .stop) = (match σ[j]? with | some (.v d) => T.ret d | some (.o x) => x.d | _ => .stop)
      rw [e, hx]
      show T.ret d = O.d x
      unfold O.d; rw [hd]
theorem look_frz (σ : Env) (k : List Nat) (r : R) : look (frz σ k) r = look σ r := by
  induction k generalizing σ with
  | nil => rfl
  | cons i k ih => exact (ih (frz1 σ i)).trans (look_frz1 σ i r)
theorem looks_frz (σ : Env) (k : List Nat) (rs : List R) : looks (frz σ k) rs = looks σ rs := by
  induction rs with
  | nil => rfl
  | cons r rs ih =>
    show (look (frz σ k) r).bind (fun d => (looks (frz σ k) rs).bind fun ds => T.ret (d :: ds)) = (look σ r).bind (fun d => (looks σ rs).bind fun ds => T.ret (d :: ds))
    rw [look_frz, ih]
/-- a result given away -/
theorem esc_rep (h : RW K F H H0 σ σV v r) (s : Hd K F H σV σ) (e : look σ r = .ret d) : ∃ F', Wid H0 σ σV F F' ∧ Hd K F' H σV (frz σ (slotsOf r)) ∧ Rep K F' v d := by
  cases h with
  | v h => cases e; exact ⟨F, Wid.refl, s, h⟩
  | o hp h0 ho no =>
    rename_i a x
    have e' : O.d x = .ret d := e
    unfold O.d at e'
    cases hd : x.toD with
    | none => rw [hd] at e'; cases e'
    | some d' =>
      rw [hd] at e'; cases e'
      exact ⟨put F H a, ⟨same_put s.le, fun b o e _ => put_ne fun z => by rw [z, h0] at e; cases e⟩, s.put no, ho.rep hd (same_put s.le) fun o q => by rw [put_same]; exact q⟩
  | s hV =>
    rename_i i
    obtain ⟨F', e1, s'⟩ := s.frz1 (H0 := H0) i
    refine ⟨F', e1, s', ?_⟩
    have q : look (frz1 σ i) (.s i) = .ret d := (look_frz1 σ i (.s i)).trans e
    have q : (match (frz1 σ i)[i]? with | some (.v d) => T.ret d | some (.o x) => x.d | _ => .stop) = .ret d := q
    rcases frz1_get (σ := σ) (i := i) (j := i) with e2 | ⟨_, x, d', hx, hd, e2⟩
    · cases e3 : σ[i]? with
      | none => rw [e2, e3] at q; cases q
      | some sl =>
        cases sl with
        | u => rw [e2, e3] at q; cases q
        | v d' =>
          rw [e2, e3] at q; cases q
          obtain ⟨w, h1, h2⟩ := s'.val i d (e2.trans e3)
          rw [hV] at h1; cases h1; exact h2
        | o x =>
          rw [e2, e3] at q
          have q : O.d x = .ret d := q
          unfold O.d at q
          cases hd : x.toD with
          | none => rw [hd] at q; cases q
          | some d' =>
            have : (frz1 σ i)[i]? = some (.v d') := by
              unfold frz1; rw [e3]; simp only [hd]
              rw [List.getElem?_set_self (List.getElem?_eq_some_iff.mp e3).1]
            rw [e2, e3] at this; cases this
    · rw [e2] at q; cases q
      obtain ⟨w, h1, h2⟩ := s'.val i d e2
      rw [hV] at h1; cases h1; exact h2
theorem G.frz {k : List Nat} : G F σ σV H F (DL.frz σ k) σV H := ⟨Same.refl _, fun _ _ _ _ => rfl, fun _ _ e _ => e, fun i x a e h => .inr (own_no (frz_own e) h), fun _ e => ⟨frz_pool e, rfl, fun _ _ _ q => q⟩, fun _ o e => ⟨o, e⟩⟩
theorem RW.wid {k : List Nat} (h : RW K F H H0 σ σV v r) (w : Wid H0 σ σV F F') : RW K F' H H0 (DL.frz σ k) σV v r := by
  cases h with
  | v h => exact .v (h.mono w.1)
  | o hp h0 ho no => exact .o hp h0 (ho.mono w.1 fun _ q => q) no.frz
  | s h => exact .s h
theorem RWs.wid {k : List Nat} {vs : List V} {rs : List R} (h : RWs K F H H0 σ σV vs rs) (w : Wid H0 σ σV F F') : RWs K F' H H0 (DL.frz σ k) σV vs rs := by
  induction h with
  | nil => exact .nil
  | cons h _ ih => exact .cons (h.wid w) ih
theorem escs_reps : ∀ {rs : List R} {vs : List V} {F : Hp} {σ : Env}, RWs K F H H0 σ σV vs rs → Hd K F H σV σ → ∀ {Q : List D → Prop}, (looks σ rs).wp Q → ∃ ds, Q ds ∧ ∃ F', Wid H0 σ σV F F' ∧ Hd K F' H σV (DL.frz σ (slotsAll rs)) ∧ Reps K F' vs ds
  | _, _, F, σ, .nil, s, _, q => ⟨[], q, F, Wid.refl, s, .nil⟩
  | _, _, F, σ, .cons (r := r) (rs := rs) hr hrs, s, Q, q => by
    have q : ((look σ r).bind fun d => (looks σ rs).bind fun ds => T.ret (d :: ds)).wp Q := q
    rw [T.wp_bind] at q
    obtain ⟨d, e, _, q⟩ := look_view hr s q
    rw [T.wp_bind] at q
    obtain ⟨F1, e1, s1, r1⟩ := esc_rep hr s e
    have q : (looks (DL.frz σ (slotsOf r)) rs).wp fun ds => Q (d :: ds) := by rw [looks_frz]; exact q
    obtain ⟨ds, q, F2, e2, s2, r2⟩ := escs_reps (hrs.wid e1) s1 q
    refine ⟨d :: ds, q, F2, e1.trans e2 fun a n => n.frz, ?_, .cons (r1.mono e2.1) r2⟩
    show Hd K F2 H σV (DL.frz σ (slotsOf r ++ slotsAll rs))
    rw [frz_append]; exact s2

/-! ### displays -/
def mTup (ms : MA) : M := fun σ => (ms σ).bind fun p => (looks (frz σ p.2) p.1).bind fun ds => chk ds.length (.ret (.v (.tuple ds), p.2 ++ slotsAll p.1))
def mLst (ms : MA) : M := fun σ => (ms σ).bind fun p => (looks (frz σ p.2) p.1).bind fun ds => chk ds.length (.ret (.o (.lst ds), p.2 ++ slotsAll p.1))
theorem mTup_le {ms : MA} (h : LE K (mTup ms) σV H Q) : tTup (LA K ms) σV H Q := by
  obtain ⟨F, σ, s, h⟩ := h
  unfold mTup at h
  rw [T.wp_bind] at h
  refine ⟨F, σ, s, T.wp_mono h fun p h vs F1 H1 s1 g1 r1 => ?_⟩
  rw [T.wp_bind] at h
  obtain ⟨ds, h, F2, e2, s2, r2⟩ := escs_reps r1 s1 h
  obtain ⟨hz, h⟩ := chk_wp h
  have g2 := g1.wid (l := slotsAll p.1) e2
  rw [← frz_append] at s2 g2
  refine ⟨by rw [r2.len]; exact hz, fun a ha => ?_⟩
  have gr : Grow F2 H1 (upd F2 a (.tup vs)) (upd H1 a (.tup vs)) := .new s2.le ha
  have h : ∀ v F' H', Hd K F' H' σV (DL.frz σ (p.2 ++ slotsAll p.1)) → G F σ σV H F' (DL.frz σ (p.2 ++ slotsAll p.1)) σV H' → RR K F' H' σV H v (.v (.tuple ds)) → Q v H' := h
  exact h _ _ _ (s2.grow gr) (g2.trans (G.same gr)) (.v (.tup (.inl (.inl upd_same)) (r2.mono gr.ff)))
theorem mLst_le {ms : MA} (h : LE K (mLst ms) σV H Q) : tLst (LA K ms) σV H Q := by
  obtain ⟨F, σ, s, h⟩ := h
  unfold mLst at h
  rw [T.wp_bind] at h
  refine ⟨F, σ, s, T.wp_mono h fun p h vs F1 H1 s1 g1 r1 => ?_⟩
  rw [T.wp_bind] at h
  obtain ⟨ds, h, F2, e2, s2, r2⟩ := escs_reps r1 s1 h
  obtain ⟨hz, h⟩ := chk_wp h
  have g2 := g1.wid (l := slotsAll p.1) e2
  rw [← frz_append] at s2 g2
  refine ⟨by rw [r2.len]; exact hz, fun a ha => ?_⟩
  have gr : Grow F2 H1 F2 (upd H1 a (.lst vs)) := .newO s2.le ha
  have h : ∀ v F' H', Hd K F' H' σV (DL.frz σ (p.2 ++ slotsAll p.1)) → G F σ σV H F' (DL.frz σ (p.2 ++ slotsAll p.1)) σV H' → RR K F' H' σV H v (.o (.lst ds)) → Q v H' := h
  refine h _ _ _ (s2.grow gr) (g2.trans (G.same gr)) (.o (by intro z; cases z) (s2.le.free ha) ?_ ⟨vs, upd_same, r2⟩)
  cases q : H a with
  | none => rfl
  | some o =>
    obtain ⟨u, hu⟩ := g1.th a o q
    rw [ha] at hu; cases hu

/-! ### conditions -/
def mIf (mt : MT) (ma mb : M) : M := fun σ => (mt σ).bind fun p => if p.1 = true then (ma (frz σ p.2)).bind fun q => .ret (q.1, p.2 ++ q.2) else (mb (frz σ p.2)).bind fun q => .ret (q.1, p.2 ++ q.2)
/-- an expression behind something -/
theorem LE.after {k : List Nat} {m : M} (s1 : Hd K F1 H1 σV (frz σ k)) (g1 : G F σ σV H F1 (frz σ k) σV H1)
    (h : (m (frz σ k)).wp fun q => ∀ v F' H', Hd K F' H' σV (frz σ (k ++ q.2)) → G F σ σV H F' (frz σ (k ++ q.2)) σV H' → RR K F' H' σV H v q.1 → Q v H') : LE K m σV H1 Q :=
  ⟨F1, _, s1, T.wp_mono h fun q h v F' H' s' g' r' => by
    rw [frz_append] at h
    exact h v F' H' s' (g1.trans g') (r'.base g1.th)⟩
theorem mIf_le {mt : MT} (h : LE K (mIf mt ma mb) σV H Q) : tIf (LT K mt) (LE K ma) (LE K mb) σV H Q := by
  obtain ⟨F, σ, s, h⟩ := h
  unfold mIf at h
  rw [T.wp_bind] at h
  refine ⟨F, σ, s, T.wp_mono h fun p h F1 H1 s1 g1 => ?_⟩
  obtain ⟨b, k⟩ := p
  cases b with
  | true =>
    have h : ((ma (frz σ k)).bind fun q => T.ret (q.1, k ++ q.2)).wp _ := h
    rw [T.wp_bind] at h
    exact LE.after s1 g1 h
  | false =>
    have h : ((mb (frz σ k)).bind fun q => T.ret (q.1, k ++ q.2)).wp _ := h
    rw [T.wp_bind] at h
    exact LE.after s1 g1 h
/-- a bool's value -/
def toB (r : R) : T Bool := match r with | .v (.bool b) => .ret b | _ => .stop
def mAndV (ma mb : M) : M := fun σ => (ma σ).bind fun p => (toB p.1).bind fun b => if b = true then (mb (frz σ p.2)).bind fun q => .ret (q.1, p.2 ++ q.2) else .ret (.v (.bool false), p.2)
def mOrV (ma mb : M) : M := fun σ => (ma σ).bind fun p => (toB p.1).bind fun b => if b = true then .ret (.v (.bool true), p.2) else (mb (frz σ p.2)).bind fun q => .ret (q.1, p.2 ++ q.2)
def mNotV (ma : M) : M := fun σ => (ma σ).bind fun p => (toB p.1).bind fun b => .ret (.v (.bool (!b)), p.2)
theorem toB_wp {Q : Bool → Prop} (h : (toB r).wp Q) (rr : RR K F H σV H0 v r) : ∃ b, v = .bl b ∧ r = .v (.bool b) ∧ Q b := by
  unfold toB at h
  split at h
  · rename_i b
    cases rr with
    | v hr => cases hr; exact ⟨b, rfl, rfl, h⟩
  · exact h.elim
theorem mAndV_le (h : LE K (mAndV ma mb) σV H Q) : tAndV (LE K ma) (LE K mb) σV H Q := by
  obtain ⟨F, σ, s, h⟩ := h
  unfold mAndV at h
  rw [T.wp_bind] at h
  refine LE.then s (T.wp_mono h fun p h x F1 H1 s1 g1 r1 => ?_)
  rw [T.wp_bind] at h
  obtain ⟨b, rfl, _, h⟩ := toB_wp h r1
  refine ⟨b, rfl, ?_⟩
  cases b with
  | true =>
    have h : ((mb (frz σ p.2)).bind fun q => T.ret (q.1, p.2 ++ q.2)).wp _ := h
    rw [T.wp_bind] at h
    exact LE.after s1 g1 h
  | false => exact h _ F1 H1 s1 g1 (.v (.bl false))
theorem mOrV_le (h : LE K (mOrV ma mb) σV H Q) : tOrV (LE K ma) (LE K mb) σV H Q := by
  obtain ⟨F, σ, s, h⟩ := h
  unfold mOrV at h
  rw [T.wp_bind] at h
  refine LE.then s (T.wp_mono h fun p h x F1 H1 s1 g1 r1 => ?_)
  rw [T.wp_bind] at h
  obtain ⟨b, rfl, _, h⟩ := toB_wp h r1
  refine ⟨b, rfl, ?_⟩
  cases b with
  | false =>
    have h : ((mb (frz σ p.2)).bind fun q => T.ret (q.1, p.2 ++ q.2)).wp _ := h
    rw [T.wp_bind] at h
    exact LE.after s1 g1 h
  | true => exact h _ F1 H1 s1 g1 (.v (.bl true))
theorem mNotV_le (h : LE K (mNotV ma) σV H Q) : tNotV (LE K ma) σV H Q := by
  obtain ⟨F, σ, s, h⟩ := h
  unfold mNotV at h
  rw [T.wp_bind] at h
  refine LE.then s (T.wp_mono h fun p h x F1 H1 s1 g1 r1 => ?_)
  rw [T.wp_bind] at h
  obtain ⟨b, rfl, _, h⟩ := toB_wp h r1
  exact ⟨b, rfl, h _ F1 H1 s1 g1 (.v (.bl _))⟩

/-! ### tests -/
def tOf (m : M) : MT := fun σ => (m σ).bind fun p => (toB p.1).bind fun b => .ret (b, p.2)
def tAndM (ma mb : MT) : MT := fun σ => (ma σ).bind fun p => if p.1 = true then (mb (frz σ p.2)).bind fun q => .ret (q.1, p.2 ++ q.2) else .ret (false, p.2)
def tOrM (ma mb : MT) : MT := fun σ => (ma σ).bind fun p => if p.1 = true then .ret (true, p.2) else (mb (frz σ p.2)).bind fun q => .ret (q.1, p.2 ++ q.2)
def tNotM (ma : MT) : MT := fun σ => (ma σ).bind fun p => .ret (!p.1, p.2)
theorem tOf_lt {Q : Bool → Hp → Prop} (h : LT K (tOf m) σV H Q) : tB (LE K m) σV H Q := by
  obtain ⟨F, σ, s, h⟩ := h
  unfold tOf at h
  rw [T.wp_bind] at h
  refine LE.then s (T.wp_mono h fun p h x F1 H1 s1 g1 r1 => ?_)
  rw [T.wp_bind] at h
  obtain ⟨b, rfl, _, h⟩ := toB_wp h r1
  exact ⟨b, rfl, h F1 H1 s1 g1⟩
theorem LT.after {k : List Nat} {m : MT} {Q : Bool → Hp → Prop} (s1 : Hd K F1 H1 σV (frz σ k)) (g1 : G F σ σV H F1 (frz σ k) σV H1)
    (h : (m (frz σ k)).wp fun q => ∀ F' H', Hd K F' H' σV (frz σ (k ++ q.2)) → G F σ σV H F' (frz σ (k ++ q.2)) σV H' → Q q.1 H') : LT K m σV H1 Q :=
  ⟨F1, _, s1, T.wp_mono h fun q h F' H' s' g' => by
    rw [frz_append] at h
    exact h F' H' s' (g1.trans g')⟩
theorem tAndM_lt {ma mb : MT} {Q : Bool → Hp → Prop} (h : LT K (tAndM ma mb) σV H Q) : tAnd (LT K ma) (LT K mb) σV H Q := by
  obtain ⟨F, σ, s, h⟩ := h
  unfold tAndM at h
  rw [T.wp_bind] at h
  refine ⟨F, σ, s, T.wp_mono h fun p h F1 H1 s1 g1 => ?_⟩
  obtain ⟨b, k⟩ := p
  cases b with
  | true =>
    have h : ((mb (frz σ k)).bind fun q => T.ret (q.1, k ++ q.2)).wp _ := h
    rw [T.wp_bind] at h
    exact LT.after s1 g1 h
  | false => exact h F1 H1 s1 g1
theorem tOrM_lt {ma mb : MT} {Q : Bool → Hp → Prop} (h : LT K (tOrM ma mb) σV H Q) : tOr (LT K ma) (LT K mb) σV H Q := by
  obtain ⟨F, σ, s, h⟩ := h
  unfold tOrM at h
  rw [T.wp_bind] at h
  refine ⟨F, σ, s, T.wp_mono h fun p h F1 H1 s1 g1 => ?_⟩
  obtain ⟨b, k⟩ := p
  cases b with
  | false =>
    have h : ((mb (frz σ k)).bind fun q => T.ret (q.1, k ++ q.2)).wp _ := h
    rw [T.wp_bind] at h
    exact LT.after s1 g1 h
  | true => exact h F1 H1 s1 g1
theorem tNotM_lt {ma : MT} {Q : Bool → Hp → Prop} (h : LT K (tNotM ma) σV H Q) : tNot (LT K ma) σV H Q := by
  obtain ⟨F, σ, s, h⟩ := h
  unfold tNotM at h
  rw [T.wp_bind] at h
  exact ⟨F, σ, s, T.wp_mono h fun p h F1 H1 s1 g1 => h F1 H1 s1 g1⟩
end
end DL

namespace DL
open PySem PySem.Spec PyProof.Rows L2
variable [ShObj]

/-! ### calls of the text's own defs -/
structure PoGrow (F H F' H' : Hp) (vs : List V) (sl : List Sl) : Prop where
  ff : Same F F'
  fh : Same F' H'
  fr : ∀ a o, H a = some o → (∀ (i : Nat), sl[i]? = some (.o .pool) → vs[i]? ≠ some (.ref a)) → H' a = some o
  nw : ∀ a o, H a = some o → F' a = F a
  po : ∀ (i : Nat) a s, sl[i]? = some (.o .pool) → vs[i]? = some (.ref a) → PoolS F H a s → PoolS F' H' a s
/-- the arguments as the callee sees them -/
inductive ArgL (K : PySem.W.Frag) (F H : Hp) : List V → List Sl → Prop
  | nil : ArgL K F H [] []
  | val {v : V} {d : D} {vs : List V} {sl : List Sl} : Rep K F v d → ArgL K F H vs sl → ArgL K F H (v :: vs) (.v d :: sl)
  | pool {a s : Addr} {vs : List V} {sl : List Sl} : F a = none → PoolS F H a s → ArgL K F H vs sl → ArgL K F H (.ref a :: vs) (.o .pool :: sl)
def pools : List Sl → Nat
  | [] => 0
  | .o .pool :: r => pools r + 1
  | _ :: r => pools r
def spD (K : PySem.W.Frag) (n : Nat) (m : List Sl → T R) : Sp := fun vs H Q _ => vs.length = n ∧ ∃ F sl, Same F H ∧ ArgL K F H vs sl ∧ pools sl ≤ 1 ∧ (m sl).wp fun r => ∀ v F' H', PoGrow F H F' H' vs sl → R0 K F' H' H v r → Q v H'
def argOf (σ : Env) (r : R) : T Sl := match r with
  | .s i => (match σ[i]? with | some (.o .pool) => .ret (.o .pool) | _ => (look σ (.s i)).bind fun d => .ret (.v d))
  | .v d => .ret (.v d)
  | .o x => (O.d x).bind fun d => .ret (.v d)
def argsOf (σ : Env) : List R → T (List Sl)
  | [] => .ret []
  | r :: rs => (argOf σ r).bind fun a => (argsOf σ rs).bind fun l => .ret (a :: l)
def R.atom : R → Bool
  | .v .none => true
  | .v (.bool _) => true
  | .v (.int _) => true
  | .v (.str _) => true
  | _ => false
def one {α : Type} (sl : List Sl) (t : T α) : T α := if pools sl ≤ 1 then t else .stop
def mCall (f : List Sl → T R) (ms : MA) : M := fun σ => (ms σ).bind fun p => (argsOf (frz σ p.2) p.1).bind fun sl => one sl ((f sl).bind fun r => .ret (r, if r.atom = true then p.2 else p.2 ++ slotsAll p.1))
section
variable {K : PySem.W.Frag} {F F' F1 F2 H H' H0 H1 H2 : Hp} {σ σ' σ1 σ2 : Env} {σV σV' σV1 σV2 : L2.St} {Q : VK} {m ma mb : M} {v : V} {r : R} {d : D}
theorem ArgL.len {vs : List V} {sl : List Sl} (h : ArgL K F H vs sl) : vs.length = sl.length := by
  induction h with
  | nil => rfl
  | val _ _ ih => exact congrArg (· + 1) ih
  | pool _ _ _ ih => exact congrArg (· + 1) ih
theorem ArgL.getV {vs : List V} {sl : List Sl} (h : ArgL K F H vs sl) : ∀ {i : Nat} {d : D}, sl[i]? = some (.v d) → ∃ v, vs[i]? = some v ∧ Rep K F v d := by
  induction h with
  | nil => intro i d e; simp at e
  | val hr _ ih =>
    intro i d e
    cases i with
    | zero => simp at e; subst e; exact ⟨_, rfl, hr⟩
    | succ i => obtain ⟨v, a, b⟩ := ih (i := i) (by simpa using e); exact ⟨v, by simpa using a, b⟩
  | pool _ _ _ ih =>
    intro i d e
    cases i with
    | zero => simp at e
    | succ i => obtain ⟨v, a, b⟩ := ih (i := i) (by simpa using e); exact ⟨v, by simpa using a, b⟩
theorem ArgL.getO {vs : List V} {sl : List Sl} (h : ArgL K F H vs sl) : ∀ {i : Nat} {x : O}, sl[i]? = some (.o x) → x = .pool ∧ ∃ a s, vs[i]? = some (.ref a) ∧ F a = none ∧ PoolS F H a s := by
  induction h with
  | nil => intro i d e; simp at e
  | val hr _ ih =>
    intro i d e
    cases i with
    | zero => simp at e
    | succ i => obtain ⟨z, a, s, q1, q2⟩ := ih (i := i) (by simpa using e); exact ⟨z, a, s, by simpa using q1, q2⟩
  | pool h0 hp _ ih =>
    intro i d e
    cases i with
    | zero => simp at e; subst e; exact ⟨rfl, _, _, rfl, h0, hp⟩
    | succ i => obtain ⟨z, a, s, q1, q2⟩ := ih (i := i) (by simpa using e); exact ⟨z, a, s, by simpa using q1, q2⟩
theorem pools_one : ∀ {sl : List Sl} {i j : Nat}, pools sl ≤ 1 → sl[i]? = some (.o .pool) → sl[j]? = some (.o .pool) → i = j
  | [], _, _, _, h, _ => by simp at h
  | a :: r, 0, 0, _, _, _ => rfl
  | a :: r, 0, j + 1, h, h1, h2 => by
    simp at h1 h2; subst h1
    have e : pools (.o .pool :: r) = pools r + 1 := rfl
    have key : ∀ (r : List Sl) (j : Nat), r[j]? = some (.o .pool) → 1 ≤ pools r := by
      intro r
      induction r with
      | nil => intro j q; simp at q
      | cons b r ih =>
        intro j q
        cases j with
        | zero => simp at q; subst q; show 1 ≤ pools r + 1; omega
        | succ j =>
          have := ih j (by simpa using q)
          cases b with
          | u => exact this
          | v _ => exact this
          | o x => cases x with
            | pool => show 1 ≤ pools r + 1; omega
            | lst _ => exact this
            | dic _ => exact this
            | rng _ _ => exact this
            | bor _ _ => exact this
    have := key r j h2
    omega
  | a :: r, i + 1, 0, h, h1, h2 => (pools_one (i := 0) (j := i + 1) h h2 h1).symm
  | a :: r, i + 1, j + 1, h, h1, h2 => by
    have hr : pools r ≤ 1 := by
      cases a with
      | u => exact h
      | v _ => exact h
      | o x => cases x with
        | pool => have : pools r + 1 ≤ 1 := h; omega
        | lst _ => exact h
        | dic _ => exact h
        | rng _ _ => exact h
        | bor _ _ => exact h
    exact congrArg (· + 1) (pools_one hr (by simpa using h1) (by simpa using h2))
/-- the caller's arguments: the pools are slots -/
inductive ArgC (K : PySem.W.Frag) (F H : Hp) (σ : Env) (σV : L2.St) : List V → List Sl → Prop
  | nil : ArgC K F H σ σV [] []
  | val {v : V} {d : D} {vs : List V} {sl : List Sl} : Rep K F v d → ArgC K F H σ σV vs sl → ArgC K F H σ σV (v :: vs) (.v d :: sl)
  | pool {a : Addr} {i : Nat} {vs : List V} {sl : List Sl} : σ[i]? = some (.o .pool) → σV[i]? = some (some (.ref a)) → ArgC K F H σ σV vs sl → ArgC K F H σ σV (.ref a :: vs) (.o .pool :: sl)
theorem ArgC.toL {vs : List V} {sl : List Sl} (h : ArgC K F H σ σV vs sl) (s : Hd K F H σV σ) : ArgL K F H vs sl := by
  induction h with
  | nil => exact .nil
  | val hr _ ih => exact .val hr ih
  | pool h1 h2 _ ih =>
    obtain ⟨b, e1, e2, s', e3⟩ := s.own _ _ h1
    rw [h2] at e1; cases e1
    exact .pool e2 e3 ih
theorem ArgC.slot {vs : List V} {sl : List Sl} (h : ArgC K F H σ σV vs sl) : ∀ {i : Nat} {a : Addr}, sl[i]? = some (.o .pool) → vs[i]? = some (.ref a) → ∃ j : Nat, σ[j]? = some (.o .pool) ∧ σV[j]? = some (some (.ref a)) := by
  induction h with
  | nil => intro i a e; simp at e
  | val hr _ ih =>
    intro i a e q
    cases i with
    | zero => simp at e
    | succ i => exact ih (i := i) (by simpa using e) (by simpa using q)
  | pool h1 h2 _ ih =>
    intro i a e q
    cases i with
    | zero => simp at q; subst q; exact ⟨_, h1, h2⟩
    | succ i => exact ih (i := i) (by simpa using e) (by simpa using q)
theorem args_ok : ∀ {rs : List R} {vs : List V} {F : Hp} {σ : Env}, RWs K F H H0 σ σV vs rs → Hd K F H σV σ → ∀ {Q : List Sl → Prop}, (argsOf σ rs).wp Q → ∃ sl, Q sl ∧ ∃ F', Wid H0 σ σV F F' ∧ Hd K F' H σV (frz σ (slotsAll rs)) ∧ ArgC K F' H (frz σ (slotsAll rs)) σV vs sl := by
  have mono : ∀ {vs : List V} {sl : List Sl} {F F' : Hp} {σ : Env} {k : List Nat}, ArgC K F H σ σV vs sl → Same F F' → ArgC K F' H (DL.frz σ k) σV vs sl := by
    intro vs sl F F' σ k h e
    induction h with
    | nil => exact .nil
    | val hr _ ih => exact .val (hr.mono e) ih
    | pool h1 h2 _ ih => exact .pool (frz_pool h1) h2 ih
  have arg_frz : ∀ (σ : Env) (k : List Nat) (r : R), argOf (DL.frz σ k) r = argOf σ r := by
    intro σ k r
    cases r with
    | v d => rfl
    | o x => rfl
    | s i =>
      have step : ∀ (σ : Env) (j : Nat), argOf (frz1 σ j) (.s i) = argOf σ (.s i) := by
        intro σ j
        show (match (frz1 σ j)[i]? with | some (Sl.o O.pool) => T.ret (Sl.o O.pool) | _ => (look (frz1 σ j) (.s i)).bind fun d => T.ret (Sl.v d)) = (match σ[i]? with | some (Sl.o O.pool) => T.ret (Sl.o O.pool) | _ => (look σ (.s i)).bind fun d => T.ret (Sl.v d))
        rw [look_frz1]
        rcases frz1_get (σ := σ) (i := j) (j := i) with e | ⟨_, x, d, hx, hd, e⟩
        · rw [e]
        · rw [e, hx]
          cases x with
          | pool => cases hd
          | lst _ => rfl
          | dic _ => rfl
          | rng _ _ => cases hd
          | bor _ _ => rfl
      induction k generalizing σ with
      | nil => rfl
      | cons j k ih => exact (ih (frz1 σ j)).trans (step σ j)
  have args_frz : ∀ (σ : Env) (k : List Nat) (rs : List R), argsOf (DL.frz σ k) rs = argsOf σ rs := by
    intro σ k rs
    induction rs with
    | nil => rfl
    | cons r rs ih => show (argOf (DL.frz σ k) r).bind _ = (argOf σ r).bind _; rw [arg_frz, ih]
  intro rs
  induction rs with
  | nil =>
    intro vs F σ h s Q q
    cases h
    exact ⟨[], q, F, Wid.refl, s, .nil⟩
  | cons r rs ih =>
    intro vs F σ h s Q q
    cases h with
    | cons hr hrs =>
      rename_i v0 vs0
      have q : ((argOf σ r).bind fun a => (argsOf σ rs).bind fun l => T.ret (a :: l)).wp Q := q
      rw [T.wp_bind] at q
      have rest : ∀ {F1 : Hp} {a : Sl}, Wid H0 σ σV F F1 → Hd K F1 H σV (DL.frz σ (slotsOf r)) → ((argsOf σ rs).bind fun l => T.ret (a :: l)).wp Q → ∃ l, Q (a :: l) ∧ ∃ F', Wid H0 σ σV F F' ∧ Same F1 F' ∧ Hd K F' H σV (DL.frz σ (slotsAll (r :: rs))) ∧ ArgC K F' H (DL.frz σ (slotsAll (r :: rs))) σV vs0 l := by
        intro F1 a e1 s1 q
        rw [T.wp_bind] at q
        have q : (argsOf (DL.frz σ (slotsOf r)) rs).wp fun l => Q (a :: l) := by rw [args_frz]; exact q
        obtain ⟨l, q, F2, e2, s2, r2⟩ := ih (hrs.wid e1) s1 q
        have ef : DL.frz σ (slotsAll (r :: rs)) = DL.frz (DL.frz σ (slotsOf r)) (slotsAll rs) := frz_append _ _ _
        exact ⟨l, q, F2, e1.trans e2 fun a n => n.frz, e2.1, by rw [ef]; exact s2, by rw [ef]; exact r2⟩
      have valcase : ∀ {d : D}, look σ r = .ret d → ((argsOf σ rs).bind fun l => T.ret (Sl.v d :: l)).wp Q → ∃ sl, Q sl ∧ ∃ F', Wid H0 σ σV F F' ∧ Hd K F' H σV (DL.frz σ (slotsAll (r :: rs))) ∧ ArgC K F' H (DL.frz σ (slotsAll (r :: rs))) σV (v0 :: vs0) sl := by
        intro d e q
        obtain ⟨F1, e1, s1, r1⟩ := esc_rep hr s e
        obtain ⟨l, q, F2, e2, e3, s2, r2⟩ := rest e1 s1 q
        exact ⟨_, q, F2, e2, s2, .val (r1.mono e3) r2⟩
      cases r with
      | v d => exact valcase rfl q
      | o x =>
        have q : ((O.d x).bind fun d => T.ret (Sl.v d)).wp _ := q
        rw [T.wp_bind] at q
        obtain ⟨d, e, q⟩ := O.d_wp q
        exact valcase (show O.d x = .ret d by unfold O.d; rw [e]) q
      | s i =>
        by_cases hp : σ[i]? = some (.o .pool)
        · have e : argOf σ (.s i) = .ret (.o .pool) := by unfold argOf; simp only [hp]
          rw [e] at q
          obtain ⟨a, h1, h2, h3⟩ := s.own i _ hp
          cases hr with
          | s hV =>
            rw [h1] at hV; cases hV
            obtain ⟨F1, e1, s1⟩ := s.frz1 (H0 := H0) i
            obtain ⟨l, q, F2, e2, e3, s2, r2⟩ := rest e1 s1 q
            exact ⟨_, q, F2, e2, s2, .pool (frz_pool hp) h1 r2⟩
        · have e : argOf σ (.s i) = (look σ (.s i)).bind fun d => .ret (.v d) := by
            show (match σ[i]? with | some (Sl.o O.pool) => T.ret (Sl.o O.pool) | _ => (look σ (.s i)).bind fun d => T.ret (Sl.v d)) = _
            split
            · rename_i z; exact absurd z hp
            · rfl
          rw [e, T.wp_bind] at q
          obtain ⟨d, e, _, q⟩ := look_view hr s q
          exact valcase e q
/-- behind a call -/
theorem call_grow {vs : List V} {sl : List Sl} (s : Hd K F H σV σ) (link : ∀ {i : Nat} {a : Addr}, sl[i]? = some (.o .pool) → vs[i]? = some (.ref a) → ∃ j : Nat, σ[j]? = some (.o .pool) ∧ σV[j]? = some (some (.ref a))) (g : PoGrow F H F' H' vs sl) :
    Hd K F' H' σV σ ∧ G F σ σV H F' σ σV H' := by
  have np : ∀ a, NoOwn σ σV a → ∀ (i : Nat), sl[i]? = some (.o .pool) → vs[i]? ≠ some (.ref a) := fun a no i e q => by
    obtain ⟨j, h1, h2⟩ := link e q
    exact no j _ h1 h2
  have po : ∀ (i : Nat) a s', σ[i]? = some (.o .pool) → σV[i]? = some (some (.ref a)) → PoolS F H a s' → PoolS F' H' a s' := fun i a s' hi hV q => by
    by_cases h : ∃ j : Nat, sl[j]? = some (.o .pool) ∧ vs[j]? = some (.ref a)
    · obtain ⟨j, h1, h2⟩ := h
      exact g.po j a s' h1 h2 q
    · exact q.mono g.ff fun o e => g.fr a o e fun j h1 h2 => h ⟨j, h1, h2⟩
  refine ⟨⟨g.fh, s.len, fun i d e => ?_, fun i x e => ?_, s.dis⟩, ⟨g.ff, fun a o e _ => g.nw a o e, fun a o e no => g.fr a o e (np a no), fun i x a e h => .inr (own_no e h), fun i e => ⟨e, rfl, fun a s' hV q => po i a s' e hV q⟩, fun a o e => ?_⟩⟩
  · obtain ⟨v, h1, h2⟩ := s.val i d e
    exact ⟨v, h1, h2.mono g.ff⟩
  · obtain ⟨a, h1, h2, h3⟩ := s.own i x e
    obtain ⟨o, ho⟩ := h3.there
    refine ⟨a, h1, (g.nw a o ho).trans h2, ?_⟩
    by_cases hx : x = .pool
    · subst hx
      obtain ⟨s', h3⟩ := h3
      exact ⟨s', po i a s' e h1 h3⟩
    · refine h3.mono g.ff fun o' e' => g.fr a o' e' fun j q1 q2 => ?_
      obtain ⟨k, q3, q4⟩ := link q1 q2
      by_cases hk : i = k
      · subst hk; rw [e] at q3; cases q3; exact hx rfl
      · exact s.dis i k _ _ hk e q3 (h1.trans q4.symm)
  · by_cases h : ∃ j : Nat, sl[j]? = some (.o .pool) ∧ vs[j]? = some (.ref a)
    · obtain ⟨j, h1, h2⟩ := h
      obtain ⟨k, q3, q4⟩ := link h1 h2
      obtain ⟨b, e1, _, s', e3⟩ := s.own k _ q3
      rw [q4] at e1; cases e1
      exact ShObj.there (po k a s' q3 q4 e3)
    · exact ⟨o, g.fr a o e fun j h1 h2 => h ⟨j, h1, h2⟩⟩
theorem ArgL_len {n : Nat} {ms : MA} : True := trivial
theorem mCall_le {f : List Sl → T R} {n : Nat} {ms : MA} (hn : ∀ σ Q, (ms σ).wp Q → (ms σ).wp fun p => p.1.length = n ∧ Q p) (h : LE K (mCall f ms) σV H Q) : tCall (spD K n f) [] E0 (LA K ms) σV H Q := by
  obtain ⟨F, σ, s, h⟩ := h
  unfold mCall at h
  rw [T.wp_bind] at h
  refine ⟨F, σ, s, T.wp_mono (hn σ _ h) fun p ⟨hl, h⟩ vs F1 H1 s1 g1 r1 => ?_⟩
  rw [T.wp_bind] at h
  obtain ⟨sl, h, F2, w2, s2, a2⟩ := args_ok r1 s1 h
  unfold one at h
  by_cases hp : pools sl ≤ 1
  · rw [if_pos hp, T.wp_bind] at h
    have hvl : vs.length = p.1.length := by
      clear h a2
      generalize p.1 = rs at r1
      induction r1 with
      | nil => rfl
      | cons _ _ ih => exact congrArg (· + 1) ih
    refine ⟨by rw [List.append_nil, hvl, hl], F2, sl, s2.le, by rw [List.append_nil]; exact a2.toL s2, hp, T.wp_mono h fun r h v F' H' gr h0 => ?_⟩
    rw [List.append_nil] at gr
    cases hr : r.atom with
    | true =>
      rw [if_pos hr] at h
      -- nothing of the arguments stays
      have gr1 : PoGrow F1 H1 F1 H' vs sl := ⟨Same.refl _, (w2.1.trans gr.ff).trans gr.fh, gr.fr, fun _ _ _ => rfl, fun i a s' e1 e2 q => by
        exact ShObj.back q (gr.po i a s' e1 e2 (ShObj.mono q w2.1 fun _ z => z)) (w2.1.trans gr.ff)⟩
      have lk : ∀ {i : Nat} {a : Addr}, sl[i]? = some (.o .pool) → vs[i]? = some (.ref a) → ∃ j : Nat, (frz σ p.2)[j]? = some (.o .pool) ∧ σV[j]? = some (some (.ref a)) := fun e1 e2 => by
        obtain ⟨j, q1, q2⟩ := a2.slot e1 e2
        exact ⟨j, frz_own q1, q2⟩
      obtain ⟨s3, g3⟩ := call_grow s1 lk gr1
      have h : ∀ v F' H', Hd K F' H' σV (frz σ p.2) → G F σ σV H F' (frz σ p.2) σV H' → RR K F' H' σV H v r → Q v H' := h
      refine h v F1 H' s3 (g1.trans g3) ?_
      cases h0 with
      | v hv =>
        refine .v ?_
        cases hv with
        | non => exact .non
        | bl b => exact .bl b
        | int i => exact .int i
        | str x => exact .str x
        | lst _ _ => cases hr
        | tup _ _ => cases hr
        | dic _ _ => cases hr
      | o _ _ _ _ => cases hr
    | false =>
      rw [if_neg (by rw [hr]; decide)] at h
      obtain ⟨s3, g3⟩ := call_grow s2 a2.slot gr
      have g2 := g1.wid (l := slotsAll p.1) w2
      rw [← frz_append] at s3 g2 g3
      have h : ∀ v F' H', Hd K F' H' σV (frz σ (p.2 ++ slotsAll p.1)) → G F σ σV H F' (frz σ (p.2 ++ slotsAll p.1)) σV H' → RR K F' H' σV H v r → Q v H' := h
      exact h v F' H' s3 (g2.trans g3) (h0.rr.base g1.th)
  · rw [if_neg hp] at h; exact h.elim
/-- how many arguments -/
def CntA (ms : MA) (n : Nat) : Prop := ∀ σ Q, (ms σ).wp Q → (ms σ).wp fun p => p.1.length = n ∧ Q p
theorem cnt_nil : CntA mNil 0 := fun σ Q h => ⟨rfl, h⟩
theorem cnt_cons {mr : MA} {n : Nat} (h : CntA mr n) : CntA (mCons ma mr) (n + 1) := fun σ Q q => by
  unfold mCons at q ⊢
  rw [T.wp_bind] at q ⊢
  refine T.wp_mono q fun p q => ?_
  rw [T.wp_bind] at q ⊢
  exact T.wp_mono (h _ _ q) fun p' ⟨e, q⟩ => ⟨congrArg (· + 1) e, q⟩
end
end DL

namespace DL
open PySem PySem.Spec PyProof.Rows L2
variable [ShObj]

/-! ### targets -/
abbrev MG := D → Env → T Env
abbrev MGs := List D → Env → T Env
/-- what a target leaves: the slots it writes -/
def Tgt (vs : List Nat) (σV σV' : L2.St) : Prop := σV'.length = σV.length ∧ ∀ i, i ∉ vs → σV'[i]? = σV[i]?
def LG (K : PySem.W.Frag) (vs : List Nat) (g : MG) : TG := fun v σV H Q => ∃ F σ d, Hd K F H σV σ ∧ Rep K F v d ∧ (g d σ).wp fun σ' => ∀ σV', Hd K F H σV' σ' → G F σ σV H F σ' σV' H → Tgt vs σV σV' → Q σV' H
def LGs (K : PySem.W.Frag) (vs : List Nat) (g : MGs) : TGs := fun xs σV H Q => ∃ F σ ds, Hd K F H σV σ ∧ Reps K F xs ds ∧ (g ds σ).wp fun σ' => ∀ σV', Hd K F H σV' σ' → G F σ σV H F σ' σV' H → Tgt vs σV σV' → Q σV' H
def gSet (i : Nat) : MG := fun d σ => match σ[i]? with
  | some (.o .pool) => .stop
  | some _ => .ret (σ.set i (.v d))
  | none => .stop
def gsNil : MGs := fun ds σ => match ds with | [] => .ret σ | _ => .stop
def gsCons (g : MG) (gs : MGs) : MGs := fun ds σ => match ds with | d :: r => (g d σ).bind fun σ1 => gs r σ1 | [] => .stop
def gTupM (n : Nat) (gs : MGs) : MG := fun d σ => match d with | .tuple ds => if ds.length = n then gs ds σ else .stop | _ => .stop
section
variable {K : PySem.W.Frag} {F F' F0 F1 F2 H H' H0 H1 H2 : Hp} {σ σ' σ0 σ1 σ2 : Env} {σV σV' σV0 σV1 σV2 : L2.St} {m ma mb : M} {v : V} {r : R} {d : D} {i : Nat} {a : Addr} {x : O}
theorem set_get {α : Type} {l : List α} {i j : Nat} {x : α} (h : i < l.length) : (l.set i x)[j]? = if j = i then some x else l[j]? := by
  by_cases e : j = i
  · subst e; rw [if_pos rfl, List.getElem?_set_self h]
  · rw [if_neg e, List.getElem?_set_ne (Ne.symm e)]
theorem Hd.setV (s : Hd K F H σV σ) (hi : i < σ.length) (hv : Rep K F v d) : Hd K F H (σV.set i (some v)) (σ.set i (.v d)) where
  le := s.le
  len := by rw [List.length_set, List.length_set]; exact s.len
  val := fun j d' e => by
    rw [set_get hi] at e
    rw [set_get (by rw [s.len]; exact hi)]
    by_cases hj : j = i
    · rw [if_pos hj] at e ⊢; cases e; exact ⟨v, rfl, hv⟩
    · rw [if_neg hj] at e ⊢; exact s.val j d' e
  own := fun j x e => by
    rw [set_get hi] at e
    rw [set_get (by rw [s.len]; exact hi)]
    by_cases hj : j = i
    · rw [if_pos hj] at e; cases e
    · rw [if_neg hj] at e ⊢; exact s.own j x e
  dis := fun j k x y hjk e1 e2 => by
    rw [set_get hi] at e1 e2
    rw [set_get (by rw [s.len]; exact hi), set_get (by rw [s.len]; exact hi)]
    by_cases hj : j = i
    · rw [if_pos hj] at e1; cases e1
    · by_cases hk : k = i
      · rw [if_pos hk] at e2; cases e2
      · rw [if_neg hj] at e1 ⊢; rw [if_neg hk] at e2 ⊢; exact s.dis j k x y hjk e1 e2
theorem Hd.setO (s : Hd K F H σV σ) (hi : i < σ.length) (hF : F a = none) (ho : Own K F H a x) (no : NoOwn σ σV a) : Hd K F H (σV.set i (some (.ref a))) (σ.set i (.o x)) where
  le := s.le
  len := by rw [List.length_set, List.length_set]; exact s.len
  val := fun j d' e => by
    rw [set_get hi] at e
    rw [set_get (by rw [s.len]; exact hi)]
    by_cases hj : j = i
    · rw [if_pos hj] at e; cases e
    · rw [if_neg hj] at e ⊢; exact s.val j d' e
  own := fun j y e => by
    rw [set_get hi] at e
    rw [set_get (by rw [s.len]; exact hi)]
    by_cases hj : j = i
    · rw [if_pos hj] at e ⊢; cases e; exact ⟨a, rfl, hF, ho⟩
    · rw [if_neg hj] at e ⊢; exact s.own j y e
  dis := fun j k y z hjk e1 e2 => by
    rw [set_get hi] at e1 e2
    rw [set_get (by rw [s.len]; exact hi), set_get (by rw [s.len]; exact hi)]
    by_cases hj : j = i
    · by_cases hk : k = i
      · exact absurd (hj.trans hk.symm) hjk
      · rw [if_neg hk] at e2 ⊢; rw [if_pos hj]
        exact fun q => no k z e2 q.symm
    · rw [if_neg hj] at e1 ⊢
      by_cases hk : k = i
      · rw [if_pos hk]; exact no j y e1
      · rw [if_neg hk] at e2 ⊢; exact s.dis j k y z hjk e1 e2
/-- a slot written anew: no pool there -/
theorem G.setV (hi : i < σ.length) (hl : σV.length = σ.length) (np : σ[i]? ≠ some (.o .pool)) : G F σ σV H F (σ.set i (.v d)) (σV.set i (some v)) H where
  ff := Same.refl _
  nf := fun _ _ _ _ => rfl
  fr := fun _ _ e _ => e
  ow := fun j x a e h => by
    rw [set_get hi] at e
    rw [set_get (by rw [hl]; exact hi)] at h
    by_cases hj : j = i
    · rw [if_pos hj] at e; cases e
    · rw [if_neg hj] at e h; exact .inr (own_no e h)
  pl := fun j e => by
    have hj : j ≠ i := fun z => np (by rw [← z]; exact e)
    rw [set_get hi, set_get (by rw [hl]; exact hi), if_neg hj, if_neg hj]
    exact ⟨e, rfl, fun _ _ _ q => q⟩
  th := fun _ o e => ⟨o, e⟩
theorem G.setO (hi : i < σ.length) (hl : σV.length = σ.length) (np : σ[i]? ≠ some (.o .pool)) (g : G F0 σ0 σV0 H0 F σ σV H) (hn : H0 a = none ∨ ¬ NoOwn σ0 σV0 a) : G F0 σ0 σV0 H0 F (σ.set i (.o x)) (σV.set i (some (.ref a))) H where
  ff := g.ff
  nf := g.nf
  fr := g.fr
  ow := fun j y b e h => by
    rw [set_get hi] at e
    rw [set_get (by rw [hl]; exact hi)] at h
    by_cases hj : j = i
    · rw [if_pos hj] at h; cases h; exact hn
    · rw [if_neg hj] at e h; exact g.ow j y b e h
  pl := fun j e => by
    have q := g.pl j e
    have hj : j ≠ i := fun z => np (by rw [← z]; exact q.1)
    rw [set_get hi, set_get (by rw [hl]; exact hi), if_neg hj, if_neg hj]
    exact q
  th := g.th
theorem gSet_lg {Q : L2.St → Hp → Prop} (h : LG K [i] (gSet i) v σV H Q) : gName i v σV H Q := by
  obtain ⟨F, σ, d, s, hv, h⟩ := h
  have key : σ[i]? ≠ some (.o .pool) → i < σ.length → (∀ σV', Hd K F H σV' (σ.set i (.v d)) → G F σ σV H F (σ.set i (.v d)) σV' H → Tgt [i] σV σV' → Q σV' H) → Q (σV.set i (some v)) H := fun np hi h =>
    h _ (s.setV hi hv) (G.setV hi s.len np) ⟨List.length_set, fun j hj => List.getElem?_set_ne fun z => hj (by rw [z]; exact List.mem_cons_self)⟩
  unfold gSet at h
  cases e : σ[i]? with
  | none => rw [e] at h; exact h.elim
  | some sl =>
    have hi : i < σ.length := (List.getElem?_eq_some_iff.mp e).1
    rw [e] at h
    cases sl with
    | u => exact key (by rw [e]; intro z; cases z) hi h
    | v _ => exact key (by rw [e]; intro z; cases z) hi h
    | o x =>
      cases x with
      | pool => exact h.elim
      | lst _ => exact key (by rw [e]; intro z; cases z) hi h
      | dic _ => exact key (by rw [e]; intro z; cases z) hi h
      | rng _ _ => exact key (by rw [e]; intro z; cases z) hi h
      | bor _ _ => exact key (by rw [e]; intro z; cases z) hi h
theorem gsNil_lg {xs : List V} {Q : L2.St → Hp → Prop} (h : LGs K [] gsNil xs σV H Q) : gNil xs σV H Q := by
  obtain ⟨F, σ, ds, s, hv, h⟩ := h
  cases hv with
  | nil => exact ⟨rfl, h σV s G.refl ⟨rfl, fun _ _ => rfl⟩⟩
  | cons _ _ => exact h.elim
theorem gsCons_lg {xs : List V} {g : MG} {gs : MGs} {is js : List Nat} {Q : L2.St → Hp → Prop} (h : LGs K (is ++ js) (gsCons g gs) xs σV H Q) : gCons (LG K is g) (LGs K js gs) xs σV H Q := by
  obtain ⟨F, σ, ds, s, hv, h⟩ := h
  cases hv with
  | nil => exact h.elim
  | cons hv hr =>
    rename_i v0 vs0 d0 ds0
    have h : ((g d0 σ).bind fun σ1 => gs ds0 σ1).wp _ := h
    rw [T.wp_bind] at h
    refine ⟨v0, vs0, rfl, F, σ, d0, s, hv, T.wp_mono h fun σ1 h σV1 s1 g1 t1 => ?_⟩
    exact ⟨F, σ1, ds0, s1, hr, T.wp_mono h fun σ2 h σV2 s2 g2 t2 => h σV2 s2 (g1.trans g2) ⟨t2.1.trans t1.1, fun j hj => (t2.2 j fun z => hj (List.mem_append_right _ z)).trans (t1.2 j fun z => hj (List.mem_append_left _ z))⟩⟩
theorem gTupM_lg {n : Nat} {gs : MGs} {is : List Nat} {Q : L2.St → Hp → Prop} (h : LG K is (gTupM n gs) v σV H Q) : gTup K n (LGs K is gs) v σV H Q := by
  obtain ⟨F, σ, d, s, hv, h⟩ := h
  cases hv with
  | tup hs hr =>
    rename_i a xs ds
    have h : (if ds.length = n then gs ds σ else T.stop).wp _ := h
    by_cases e : ds.length = n
    · rw [if_pos e] at h
      exact ⟨a, xs, rfl, seqT_of s.le hs, hr.len.trans e, F, σ, ds, s, hr, h⟩
    · rw [if_neg e] at h; exact h.elim
  | non => exact h.elim
  | bl _ => exact h.elim
  | int _ => exact h.elim
  | str _ => exact h.elim
  | lst _ _ => exact h.elim
  | dic _ _ => exact h.elim

/-! ### statements -/
inductive Fl where
  | nx
  | rt (r : R)
  | bk
  | ct
abbrev MS := Env → T (Fl × Env)
inductive RT (K : PySem.W.Frag) (F' H' H : Hp) (σ : Env) (σV : L2.St) (σ' : Env) (σV' : L2.St) : V → R → Prop
  | v {v : V} {d : D} : Rep K F' v d → RT K F' H' H σ σV σ' σV' v (.v d)
  | o {a : Addr} {x : O} : x ≠ .pool → F' a = none → Own K F' H' a x → (H a = none ∨ ¬ NoOwn σ σV a) → NoOwn σ' σV' a → RT K F' H' H σ σV σ' σV' (.ref a) (.o x)
def Post (K : PySem.W.Frag) (F : Hp) (σ : Env) (σV : L2.St) (H : Hp) (D : Ends) (p : Fl × Env) : Prop := ∀ σV' F' H', Hd K F' H' σV' p.2 → G F σ σV H F' p.2 σV' H' → match p.1 with
  | .nx => D.nx σV' H'
  | .bk => D.bk σV' H'
  | .ct => D.ct σV' H'
  | .rt r => ∀ v, RT K F' H' H σ σV p.2 σV' v r → D.rt v H'
def LS (K : PySem.W.Frag) (m : MS) : TS := fun D σV H => ∃ F σ, Hd K F H σV σ ∧ (m σ).wp (Post K F σ σV H D)
structure DB (m : MS) (X : Cx) (b : List Stmt) : Prop where pss : PSs X b (LS X.K m)
structure DS (m : MS) (X : Cx) (b : Stmt) : Prop where ps : PS X b (LS X.K m)
/-- what was new or one's own behind a part was so before -/
theorem G.old (g : G F σ σV H F1 σ1 σV1 H1) (h : H1 a = none ∨ ¬ NoOwn σ1 σV1 a) : H a = none ∨ ¬ NoOwn σ σV a := by
  by_cases n : NoOwn σ σV a
  · refine .inl ?_
    cases e : H a with
    | none => rfl
    | some o =>
      rcases h with z | z
      · have := g.fr a o e n
        rw [z] at this; cases this
      · refine absurd (fun i x hi hV => ?_) z
        rcases g.ow i x a hi hV with q | q
        · rw [e] at q; cases q
        · exact q n
  · exact .inr n
theorem Post.next {D : Ends} {p : Fl × Env} (h : Post K F σ σV H D p) (g : G F σ σV H F1 σ1 σV1 H1) : Post K F1 σ1 σV1 H1 D p := by
  intro σV' F' H' s' g'
  have q := h σV' F' H' s' (g.trans g')
  obtain ⟨fl, σ'⟩ := p
  cases fl with
  | nx => exact q
  | bk => exact q
  | ct => exact q
  | rt r =>
    intro v rt
    refine q v ?_
    cases rt with
    | v hr => exact .v hr
    | o hp h1 h2 h3 h4 => exact .o hp h1 h2 (g.old h3) h4
def sNext : MS := fun σ => .ret (.nx, σ)
def sBreak : MS := fun σ => .ret (.bk, σ)
def sCont : MS := fun σ => .ret (.ct, σ)
def sSeq (a b : MS) : MS := fun σ => (a σ).bind fun p => match p.1 with
  | .nx => b p.2
  | fl => .ret (fl, p.2)
def sIf (c : MT) (a b : MS) : MS := fun σ => (c σ).bind fun p => if p.1 = true then a (frz σ p.2) else b (frz σ p.2)
def sExpr (m : M) : MS := fun σ => (m σ).bind fun p => .ret (.nx, frz σ p.2)
def retOf (σ : Env) : R → T (Fl × Env)
  | .v d => .ret (.rt (.v d), σ)
  | .o x => .ret (.rt (.o x), σ)
  | .s i => match σ[i]? with
    | some (.v d) => .ret (.rt (.v d), σ)
    | some (.o .pool) => .stop
    | some (.o x) => .ret (.rt (.o x), σ.set i .u)
    | _ => .stop
def sRet (m : M) : MS := fun σ => (m σ).bind fun p => retOf (frz σ p.2) p.1
def sRetN : MS := fun σ => .ret (.rt (.v .none), σ)
def stor (i : Nat) (σ : Env) (r : R) : T (Fl × Env) := match σ[i]? with
  | none => .stop
  | some (.o .pool) => .stop
  | some _ => match r with
    | .v d => .ret (.nx, σ.set i (.v d))
    | .o x => .ret (.nx, σ.set i (.o x))
    | .s j => (look σ (.s j)).bind fun d => .ret (.nx, (frz1 σ j).set i (.v d))
def sSet (i : Nat) (m : M) : MS := fun σ => (m σ).bind fun p => stor i (frz σ p.2) p.1
def sAsg (g : MG) (m : M) : MS := fun σ => (m σ).bind fun p => (look (frz σ p.2) p.1).bind fun d => (g d (frz (frz σ p.2) (slotsOf p.1))).bind fun σ' => .ret (.nx, σ')
variable {D : Ends} {s1 s2 : MS}
theorem sNext_ls (h : LS K sNext D σV H) : tNext D σV H := by
  obtain ⟨F, σ, s, h⟩ := h
  exact h σV F H s G.refl
theorem sBreak_ls (h : LS K sBreak D σV H) : tBreak D σV H := by
  obtain ⟨F, σ, s, h⟩ := h
  exact h σV F H s G.refl
theorem sCont_ls (h : LS K sCont D σV H) : tCont D σV H := by
  obtain ⟨F, σ, s, h⟩ := h
  exact h σV F H s G.refl
theorem sSeq_ls {a b : MS} (h : LS K (sSeq a b) D σV H) : tSeq (LS K a) (LS K b) D σV H := by
  obtain ⟨F, σ, s, h⟩ := h
  unfold sSeq at h
  rw [T.wp_bind] at h
  refine ⟨F, σ, s, T.wp_mono h fun p h σV' F' H' s' g' => ?_⟩
  obtain ⟨fl, σ'⟩ := p
  cases fl with
  | nx => exact ⟨F', σ', s', T.wp_mono h fun q h => h.next g'⟩
  | bk => exact h σV' F' H' s' g'
  | ct => exact h σV' F' H' s' g'
  | rt r => exact h σV' F' H' s' g'
theorem sIf_ls {c : MT} {a b : MS} (h : LS K (sIf c a b) D σV H) : tIfS (LT K c) (LS K a) (LS K b) D σV H := by
  obtain ⟨F, σ, s, h⟩ := h
  unfold sIf at h
  rw [T.wp_bind] at h
  refine ⟨F, σ, s, T.wp_mono h fun p h F1 H1 s1 g1 => ?_⟩
  obtain ⟨k, l⟩ := p
  cases k with
  | true => exact ⟨F1, _, s1, T.wp_mono (show (a (frz σ l)).wp _ from h) fun q h => h.next g1⟩
  | false => exact ⟨F1, _, s1, T.wp_mono (show (b (frz σ l)).wp _ from h) fun q h => h.next g1⟩
theorem sExpr_ls (h : LS K (sExpr m) D σV H) : tDrop (LE K m) D σV H := by
  obtain ⟨F, σ, s, h⟩ := h
  unfold sExpr at h
  rw [T.wp_bind] at h
  exact LE.then s (T.wp_mono h fun p h x F1 H1 s1 g1 r1 => h σV F1 H1 s1 g1)
theorem sRet_ls (h : LS K (sRet m) D σV H) : tRet (LE K m) D σV H := by
  obtain ⟨F, σ, s, h⟩ := h
  unfold sRet at h
  rw [T.wp_bind] at h
  refine LE.then s (T.wp_mono h fun p h x F1 H1 s1 g1 r1 => ?_)
  obtain ⟨r, k⟩ := p
  cases r1 with
  | v hr => exact h σV F1 H1 s1 g1 _ (.v hr)
  | o hp hF h0 ho =>
    refine h σV F1 H1 s1 g1 _ (.o hp hF ho (.inl h0) fun i y e q => ?_)
    obtain ⟨b, e1, e2, e3⟩ := s.own i y (frz_own e)
    rw [q] at e1; cases e1
    obtain ⟨o, ho⟩ := e3.there
    rw [h0] at ho; cases ho
  | @s _ i hV =>
    have h : (retOf (frz σ k) (.s i)).wp _ := h
    unfold retOf at h
    cases e : (frz σ k)[i]? with
    | none => simp only [e] at h; exact h.elim
    | some sl =>
      cases sl with
      | u => simp only [e] at h; exact h.elim
      | v d =>
        simp only [e] at h
        obtain ⟨w, q1, q2⟩ := s1.val i d e
        rw [hV] at q1; cases q1
        exact h σV F1 H1 s1 g1 _ (.v q2)
      | o y =>
        obtain ⟨a, q1, q2, q3⟩ := s1.own i y e
        rw [hV] at q1; cases q1
        have hi : i < (frz σ k).length := (List.getElem?_eq_some_iff.mp e).1
        have npool : y ≠ .pool := fun z => by subst z; simp only [e] at h; exact h
        have h : (T.ret (Fl.rt (.o y), (frz σ k).set i .u)).wp (Post K F σ σV H D) := by
          cases y with
          | pool => exact absurd rfl npool
          | lst _ => simp only [e] at h; exact h
          | dic _ => simp only [e] at h; exact h
          | rng _ _ => simp only [e] at h; exact h
          | bor _ _ => simp only [e] at h; exact h
        have un : ∀ j y', ((frz σ k).set i .u)[j]? = some (.o y') → j ≠ i ∧ (frz σ k)[j]? = some (.o y') := fun j y' e' => by
          rw [set_get hi] at e'
          by_cases hj : j = i
          · rw [if_pos hj] at e'; cases e'
          · rw [if_neg hj] at e'; exact ⟨hj, e'⟩
        have s2 : Hd K F1 H1 σV ((frz σ k).set i .u) := ⟨s1.le, by rw [List.length_set]; exact s1.len, fun j d' e' => by
            rw [set_get hi] at e'
            by_cases hj : j = i
            · rw [if_pos hj] at e'; cases e'
            · rw [if_neg hj] at e'; exact s1.val j d' e', fun j y' e' => s1.own j y' (un j y' e').2, fun j l y' z' hjl e1 e2 => s1.dis j l y' z' hjl (un j y' e1).2 (un l z' e2).2⟩
        have g2 : G F σ σV H F1 ((frz σ k).set i .u) σV H1 := ⟨g1.ff, g1.nf, g1.fr, fun j y' b e' hb => g1.ow j y' b (un j y' e').2 hb, fun j e' => by
            have q := g1.pl j e'
            have hj : j ≠ i := fun z => by subst z; rw [e] at q; exact npool (by have := q.1; injection this with this; injection this)
            rw [set_get hi, if_neg hj]; exact q, g1.th⟩
        exact h σV F1 H1 s2 g2 _ (.o npool q2 q3 (g1.ow i y a e hV) fun j y' e' hb => s1.dis j i y' y (un j y' e').1 (un j y' e').2 e (hb.trans hV.symm))
theorem sRetN_ls (h : LS K sRetN D σV H) : tRetN D σV H := by
  obtain ⟨F, σ, s, h⟩ := h
  exact h σV F H s G.refl _ (.v .non)
theorem sSet_ls (h : LS K (sSet i m) D σV H) : tAsg (LE K m) (gName i) D σV H := by
  obtain ⟨F, σ, s, h⟩ := h
  unfold sSet at h
  rw [T.wp_bind] at h
  refine LE.then s (T.wp_mono h fun p h x F1 H1 s1 g1 r1 => ?_)
  obtain ⟨r, k⟩ := p
  show D.nx (σV.set i (some x)) H1
  have h : (stor i (frz σ k) r).wp _ := h
  unfold stor at h
  cases e : (frz σ k)[i]? with
  | none => rw [e] at h; exact h.elim
  | some sl =>
    have hi : i < (frz σ k).length := (List.getElem?_eq_some_iff.mp e).1
    have np : (frz σ k)[i]? ≠ some (.o .pool) := fun z => by rw [z] at h; exact h
    have h : (match r with
      | .v d => T.ret (Fl.nx, (frz σ k).set i (Sl.v d))
      | .o x => T.ret (Fl.nx, (frz σ k).set i (Sl.o x))
      | .s j => (look (frz σ k) (.s j)).bind fun d => T.ret (Fl.nx, (frz1 (frz σ k) j).set i (Sl.v d))).wp (Post K F σ σV H D) := by
      rw [e] at h np
      cases sl with
      | u => exact h
      | v _ => exact h
      | o y => cases y with
        | pool => exact absurd rfl np
        | lst _ => exact h
        | dic _ => exact h
        | rng _ _ => exact h
        | bor _ _ => exact h
    cases r1 with
    | v hr => exact h _ F1 H1 (s1.setV hi hr) (g1.trans (G.setV hi s1.len np))
    | @o a y hp hF h0 ho =>
      have no : NoOwn (frz σ k) σV a := fun j y' e' q => by
        obtain ⟨b, e1, e2, e3⟩ := s.own j y' (frz_own e')
        rw [q] at e1; cases e1
        obtain ⟨o, ho⟩ := e3.there
        rw [h0] at ho; cases ho
      exact h _ F1 H1 (s1.setO hi hF ho no) (G.setO hi s1.len np g1 (.inl h0))
    | @s _ j hV =>
      have h : ((look (frz σ k) (.s j)).bind fun d => T.ret (Fl.nx, (frz1 (frz σ k) j).set i (Sl.v d))).wp (Post K F σ σV H D) := h
      rw [T.wp_bind] at h
      obtain ⟨d, el, _, h⟩ := look_view (RW.s (K := K) (H := H1) (H0 := H) (F := F1) hV) s1 h
      obtain ⟨F2, w2, s2, r2⟩ := esc_rep (RW.s (K := K) (H := H1) (H0 := H) (F := F1) hV) s1 el
      have g2 := g1.wid (l := [j]) w2
      have hi2 : i < (frz (frz σ k) [j]).length := by show i < (frz1 (frz σ k) j).length; rw [frz1_len]; exact hi
      have np2 : (frz (frz σ k) [j])[i]? ≠ some (.o .pool) := fun z => np (frz_own z)
      exact h _ F2 H1 (s2.setV hi2 r2) (g2.trans (G.setV hi2 s2.len np2))
theorem sAsg_ls {g : MG} {is : List Nat} (h : LS K (sAsg g m) D σV H) : tAsg (LE K m) (LG K is g) D σV H := by
  obtain ⟨F, σ, s, h⟩ := h
  unfold sAsg at h
  rw [T.wp_bind] at h
  refine LE.then s (T.wp_mono h fun p h x F1 H1 s1 g1 r1 => ?_)
  rw [T.wp_bind] at h
  have rw1 := r1.w s (H0 := H) (k := p.2) fun _ o e => ⟨o, e⟩
  obtain ⟨d, el, _, h⟩ := look_view rw1 s1 h
  obtain ⟨F2, w2, s2, r2⟩ := esc_rep rw1 s1 el
  have g2 := g1.wid (l := slotsOf p.1) w2
  rw [T.wp_bind] at h
  exact ⟨F2, _, d, s2, r2, T.wp_mono h fun σ' h σV' s' g' _ => h σV' F2 H1 s' (g2.trans g')⟩

end
end DL

namespace DL
open PySem PySem.Spec PyProof.Rows L2
variable [ShObj]

/-! ### what is walked -/
abbrev MI := Env → T (List DL.D × List Nat)
structure ItOk (K : PySem.W.Frag) (F : Hp) (J : It) (ds : List DL.D) : Prop where
  go : ∀ H i, Same F H → i < ds.length → J.go i H
  stop : ∀ H, Same F H → J.stop ds.length H
  yld : ∀ H H' i x, Same F H → i < ds.length → J.yld i H x H' → ∃ d, ds[i]? = some d ∧ ∀ F1, Same F F1 → Same F1 H → ∃ F2, Grow F1 H F2 H' ∧ Rep K F2 x d
theorem ItOk.mono {K : PySem.W.Frag} {F F' : Hp} {J : It} {ds : List DL.D} (h : ItOk K F J ds) (e : Same F F') : ItOk K F' J ds :=
  ⟨fun H i q => h.go H i (e.trans q), fun H q => h.stop H (e.trans q), fun H H' i x q hi y => by
    obtain ⟨d, h1, h2⟩ := h.yld H H' i x (e.trans q) hi y
    exact ⟨d, h1, fun F1 q1 q2 => h2 F1 (e.trans q1) q2⟩⟩
def LI (K : PySem.W.Frag) (m : MI) : TI := fun σV H R => ∃ F σ, Hd K F H σV σ ∧ (m σ).wp fun p => ∀ J F' H', Hd K F' H' σV (frz σ p.2) → G F σ σV H F' (frz σ p.2) σV H' → ItOk K F' J p.1 → R J H'
structure DI (m : MI) (X : Cx) (tg e : Expr) : Prop where pi : PI X tg e (LI X.K m)

/-! ### for -/
def sForGo (g : MG) (body : MS) : List DL.D → Env → T (Fl × Env)
  | [], σ => .ret (.nx, σ)
  | d :: ds, σ => (g d σ).bind fun σ1 => (body σ1).bind fun p => match p.1 with
    | .nx => sForGo g body ds p.2
    | .ct => sForGo g body ds p.2
    | .bk => .ret (.nx, p.2)
    | .rt r => .ret (.rt r, p.2)
def sFor (mi : MI) (g : MG) (body : MS) : MS := fun σ => (mi σ).bind fun p => sForGo g body p.1 (frz σ p.2)
section
variable {K : PySem.W.Frag} {F F' F0 F1 F2 H H' H0 H1 H2 : Hp} {σ σ' σ0 σ1 σ2 : Env} {σV σV' σV0 σV1 σV2 : L2.St} {m ma mb : M} {v : V} {r : R} {d : DL.D} {i : Nat} {a : Addr} {x : O} {En : Ends}
theorem sFor_ls {mi : MI} {g : MG} {is : List Nat} {body : MS} (h : LS K (sFor mi g body) En σV H) : tFor (LI K mi) (LG K is g) (LS K body) En σV H := by
  obtain ⟨F, σ, s, h⟩ := h
  unfold sFor at h
  rw [T.wp_bind] at h
  refine ⟨F, σ, s, T.wp_mono h fun p h J F1 H1 s1 g1 it => ?_⟩
  obtain ⟨ds, k⟩ := p
  have h : (sForGo g body ds (frz σ k)).wp (Post K F σ σV H En) := h
  have it : ItOk K F1 J ds := it
  refine ⟨fun i n σV2 H2 => n = ds.length - i ∧ i ≤ ds.length ∧ ∃ F2 σ2, Same F1 F2 ∧ Hd K F2 H2 σV2 σ2 ∧ G F σ σV H F2 σ2 σV2 H2 ∧ (sForGo g body (ds.drop i) σ2).wp (Post K F σ σV H En),
    ⟨ds.length, rfl, Nat.zero_le _, F1, _, Same.refl _, s1, g1, by rw [List.drop_zero]; exact h⟩, ?_⟩
  rintro i n σV2 H2 ⟨rfl, hi, F2, σ2, e2, s2, g2, h2⟩
  have e12 : Same F1 H2 := e2.trans s2.le
  by_cases hlt : i < ds.length
  · refine .inr ⟨it.go H2 i e12 hlt, fun σV3 H3 => ∃ F3 σ3, Same F1 F3 ∧ Hd K F3 H3 σV3 σ3 ∧ G F σ σV H F3 σ3 σV3 H3 ∧ (sForGo g body (ds.drop (i + 1)) σ3).wp (Post K F σ σV H En), fun σV3 H3 h3 => ⟨ds.length - (i + 1), by omega, rfl, hlt, h3⟩, fun x H3 hy => ?_⟩
    obtain ⟨d, hd, hx⟩ := it.yld H2 H3 i x e12 hlt hy
    obtain ⟨F3, gr, rx⟩ := hx F2 e2 s2.le
    have s3 := s2.grow gr
    have g3 := g2.trans (G.same gr)
    have ed : ds.drop i = d :: ds.drop (i + 1) := by
      rw [List.drop_eq_getElem_cons hlt]
      have := List.getElem?_eq_getElem hlt
      rw [hd] at this
      rw [Option.some.inj this]
    rw [ed] at h2
    have h2 : ((g d σ2).bind fun σ1 => (body σ1).bind fun p => match p.1 with
      | .nx => sForGo g body (ds.drop (i + 1)) p.2
      | .ct => sForGo g body (ds.drop (i + 1)) p.2
      | .bk => T.ret (Fl.nx, p.2)
      | .rt r => T.ret (Fl.rt r, p.2)).wp (Post K F σ σV H En) := h2
    rw [T.wp_bind] at h2
    refine ⟨F3, σ2, d, s3, rx, T.wp_mono h2 fun σ4 h4 σV4 s4 g4 _ => ?_⟩
    rw [T.wp_bind] at h4
    refine ⟨F3, σ4, s4, T.wp_mono h4 fun q h5 σV5 F5 H5 s5 g5 => ?_⟩
    have gg := (g3.trans g4).trans g5
    have ee : Same F1 F5 := (e2.trans gr.ff).trans g5.ff
    obtain ⟨fl, σ5⟩ := q
    cases fl with
    | nx => exact ⟨F5, σ5, ee, s5, gg, h5⟩
    | ct => exact ⟨F5, σ5, ee, s5, gg, h5⟩
    | bk => exact h5 σV5 F5 H5 s5 gg
    | rt r =>
      intro v rt
      refine h5 σV5 F5 H5 s5 gg v ?_
      cases rt with
      | v h => exact .v h
      | o hp q1 q2 q3 q4 => exact .o hp q1 q2 ((g3.trans g4).old q3) q4
  · have e : i = ds.length := by omega
    subst e
    rw [List.drop_length] at h2
    exact .inl ⟨it.stop H2 e12, h2 σV2 F2 H2 s2 g2⟩

/-! ### while -/
def sWhileGo (c : MT) (body : MS) : Nat → Env → T (Fl × Env)
  | 0, _ => .stop
  | n + 1, σ => (c σ).bind fun p => if p.1 = true then (body (frz σ p.2)).bind fun q => (match q.1 with
      | .nx => sWhileGo c body n q.2
      | .ct => sWhileGo c body n q.2
      | .bk => .ret (.nx, q.2)
      | .rt r => .ret (.rt r, q.2)) else .ret (.nx, frz σ p.2)
def sWhile (n : Nat) (c : MT) (body : MS) : MS := sWhileGo c body n
theorem sWhile_ls {n : Nat} {c : MT} {body : MS} (h : LS K (sWhile n c body) En σV H) : tWhile (LT K c) (LS K body) En σV H := by
  obtain ⟨F, σ, s, h⟩ := h
  refine ⟨fun n σV2 H2 => ∃ F2 σ2, Hd K F2 H2 σV2 σ2 ∧ G F σ σV H F2 σ2 σV2 H2 ∧ (sWhileGo c body n σ2).wp (Post K F σ σV H En), ⟨n, F, σ, s, G.refl, h⟩, ?_⟩
  rintro n σV2 H2 ⟨F2, σ2, s2, g2, h2⟩
  cases n with
  | zero => exact h2.elim
  | succ n =>
    have h2 : ((c σ2).bind fun p => if p.1 = true then (body (frz σ2 p.2)).bind fun q => (match q.1 with
      | .nx => sWhileGo c body n q.2
      | .ct => sWhileGo c body n q.2
      | .bk => T.ret (Fl.nx, q.2)
      | .rt r => T.ret (Fl.rt r, q.2)) else T.ret (Fl.nx, frz σ2 p.2)).wp (Post K F σ σV H En) := h2
    rw [T.wp_bind] at h2
    refine ⟨F2, σ2, s2, T.wp_mono h2 fun p h3 F3 H3 s3 g3 => ?_⟩
    obtain ⟨b, k⟩ := p
    cases b with
    | false => exact h3 σV2 F3 H3 s3 (g2.trans g3)
    | true =>
      have h3 : ((body (frz σ2 k)).bind fun q => (match q.1 with
        | .nx => sWhileGo c body n q.2
        | .ct => sWhileGo c body n q.2
        | .bk => T.ret (Fl.nx, q.2)
        | .rt r => T.ret (Fl.rt r, q.2))).wp (Post K F σ σV H En) := h3
      rw [T.wp_bind] at h3
      refine ⟨fun σV4 H4 => ∃ F4 σ4, Hd K F4 H4 σV4 σ4 ∧ G F σ σV H F4 σ4 σV4 H4 ∧ (sWhileGo c body n σ4).wp (Post K F σ σV H En), fun σV4 H4 h4 => ⟨n, Nat.lt_succ_self n, h4⟩, F3, _, s3, T.wp_mono h3 fun q h5 σV5 F5 H5 s5 g5 => ?_⟩
      have gg := (g2.trans g3).trans g5
      obtain ⟨fl, σ5⟩ := q
      cases fl with
      | nx => exact ⟨F5, σ5, s5, gg, h5⟩
      | ct => exact ⟨F5, σ5, s5, gg, h5⟩
      | bk => exact h5 σV5 F5 H5 s5 gg
      | rt r =>
        intro v rt
        refine h5 σV5 F5 H5 s5 gg v ?_
        cases rt with
        | v h => exact .v h
        | o hp q1 q2 q3 q4 => exact .o hp q1 q2 ((g2.trans g3).old q3) q4

/-! ### a def -/
def fnM (n : Nat) (mb : MS) : List Sl → T R := fun sl => (mb (sl ++ List.replicate (n - sl.length) .u)).bind fun p => match p.1 with
  | .nx => .ret (.v .none)
  | .rt r => .ret r
  | _ => .stop
theorem start_hd {N : List Str} {vs : List V} {sl : List Sl} (h : ArgL K F H vs sl) (e : Same F H) (hp : pools sl ≤ 1) (hn : vs.length ≤ N.length) : Hd K F H (L2.start N vs) (sl ++ List.replicate (N.length - sl.length) .u) := by
  have hl := h.len
  have getV : ∀ {i : Nat} {w : V}, vs[i]? = some w → (L2.start N vs)[i]? = some (some w) := fun {i w} q => by
    unfold L2.start
    have hi : i < vs.length := (List.getElem?_eq_some_iff.mp q).1
    rw [List.getElem?_append_left (by simpa using hi), List.getElem?_map, q]; rfl
  have getS : ∀ {i : Nat} {z : Sl}, (sl ++ List.replicate (N.length - sl.length) .u)[i]? = some z → z ≠ .u → sl[i]? = some z := fun {i z} q nz => by
    by_cases hi : i < sl.length
    · rw [List.getElem?_append_left hi] at q; exact q
    · rw [List.getElem?_append_right (by omega), List.getElem?_replicate] at q
      split at q
      · cases q; exact absurd rfl nz
      · cases q
  refine ⟨e, ?_, fun i d q => ?_, fun i x q => ?_, fun i j x y hij q1 q2 => ?_⟩
  · unfold L2.start
    rw [List.length_append, List.length_append, List.length_map, List.length_replicate, List.length_replicate]
    omega
  · obtain ⟨v, h1, h2⟩ := h.getV (getS q (by intro z; cases z))
    exact ⟨v, getV h1, h2⟩
  · obtain ⟨rfl, a, s, h1, h2, h3⟩ := h.getO (getS q (by intro z; cases z))
    exact ⟨a, getV h1, h2, s, h3⟩
  · obtain ⟨rfl, _⟩ := h.getO (getS q1 (by intro z; cases z))
    obtain ⟨rfl, _⟩ := h.getO (getS q2 (by intro z; cases z))
    exact absurd (pools_one hp (getS q1 (by intro z; cases z)) (getS q2 (by intro z; cases z))) hij
end
section
variable {P : Program} {w : World} {K : PySem.W.Frag} {mg : Str → Option Value} {base : Heap}
/-- a def keeps the promise of its mirror -/
theorem fn_ok {x qual : Str} {st : Stmt} {f : Addr} {fd : FuncData} {N ps : List Str} {k n : Nat} {mb : MS} (F : Fun K x qual st f fd) (S : FnScope N ps (defScope st)) (hN : N.length = n) (hps : ps.length ≤ n)
    (hb : ∀ (cdv : Value) (A : Around) (outer : List PySem.Env) (s : Shared) (H : Hp) (E : XK), Room k (A.deeper (envOfC qual (defScope st) s.heap.objs.size f cdv)) → DB mb (cxOf CX0 P w K mg base N qual (defScope st) f cdv A outer s H E).nox (defBody st)) :
    FnOk P w K mg base CX0 (k + 1) f fd ps (spD K ps.length (fnM n mb)) := by
  refine F.ok S (fun vs H Q E h => h.1) (fun cdv A outer s H vs Q E hr h => ?_)
  refine ⟨_, (hb cdv A outer s H E hr).pss, ?_⟩
  obtain ⟨hl, F0, sl, e, ha, hp, h⟩ := h
  show LS K mb { nx := fun _ H' => Q .non H', rt := Q } (L2.start N vs) H
  subst hN
  unfold fnM at h
  rw [T.wp_bind] at h
  have s0 := start_hd (N := N) ha e hp (by rw [hl]; exact hps)
  have hal := ha.len
  refine ⟨F0, _, s0, T.wp_mono h fun p h σV' F' H' s' g => ?_⟩
  -- the slots of the start
  have pool_at : ∀ {i : Nat} {a : Addr}, sl[i]? = some (.o .pool) → vs[i]? = some (.ref a) → (sl ++ List.replicate (N.length - sl.length) .u)[i]? = some (.o .pool) ∧ (L2.start N vs)[i]? = some (some (.ref a)) := fun {i a} h1 h2 => by
    have hi : i < sl.length := (List.getElem?_eq_some_iff.mp h1).1
    refine ⟨by rw [List.getElem?_append_left hi]; exact h1, ?_⟩
    unfold L2.start
    rw [List.getElem?_append_left (by rw [List.length_map]; omega), List.getElem?_map, h2]; rfl
  have noown : ∀ a, (∀ (i : Nat), sl[i]? = some (.o .pool) → vs[i]? ≠ some (.ref a)) → NoOwn (sl ++ List.replicate (N.length - sl.length) .u) (L2.start N vs) a := fun a no i x hi hV => by
    have hi' : sl[i]? = some (.o x) := by
      by_cases hlt : i < sl.length
      · rw [List.getElem?_append_left hlt] at hi; exact hi
      · rw [List.getElem?_append_right (by omega), List.getElem?_replicate] at hi
        split at hi <;> cases hi
    obtain ⟨rfl, b, _, hb, _, _⟩ := ha.getO hi'
    have := (pool_at hi' hb).2
    rw [hV] at this; cases this
    exact no i hi' hb
  have gr : PoGrow F0 H F' H' vs sl := by
    refine ⟨g.ff, s'.le, fun a o q no => g.fr a o q (noown a no), fun a o q => ?_, fun i a s q1 q2 q3 => ?_⟩
    · by_cases hx : ∃ i : Nat, sl[i]? = some (.o .pool) ∧ vs[i]? = some (.ref a)
      · obtain ⟨i, q1, q2⟩ := hx
        obtain ⟨p1, p2⟩ := pool_at q1 q2
        obtain ⟨r1, r2, _⟩ := g.pl i p1
        obtain ⟨b, z1, z2, _⟩ := s'.own i _ r1
        rw [r2, p2] at z1; cases z1
        obtain ⟨b, w1, w2, _⟩ := s0.own i _ p1
        rw [p2] at w1; cases w1
        rw [z2, w2]
      · exact g.nf a o q (noown a fun i q1 q2 => hx ⟨i, q1, q2⟩)
    · obtain ⟨p1, p2⟩ := pool_at q1 q2
      exact (g.pl i p1).2.2 a s p2 q3
  obtain ⟨fl, σ'⟩ := p
  cases fl with
  | nx => exact h .non F' H' gr (.v .non)
  | bk => exact h.elim
  | ct => exact h.elim
  | rt r =>
    intro v rt
    refine h v F' H' gr ?_
    cases rt with
    | v hr => exact .v hr
    | @o a x hp' h1 h2 h3 h4 =>
      refine .o hp' h1 ?_ h2
      rcases h3 with z | z
      · exact z
      · exfalso
        refine z (noown a fun i q1 q2 => ?_)
        obtain ⟨p1, p2⟩ := pool_at q1 q2
        obtain ⟨r1, r2, _⟩ := g.pl i p1
        exact h4 i _ r1 (r2.trans p2)
end
end DL

namespace DL
open PySem PySem.Spec PyProof.Rows L2
variable [ShObj]

theorem PI.imp {X : Cx} {tg e : Expr} {t t' : TI} (h : PI X tg e t) (m : ∀ σ H Q, t' σ H Q → t σ H Q) : PI X tg e t' := ⟨fun pins s σ H R I q => h.run pins s σ H R I (m σ H R q)⟩
def signs (z : Str) : List DL.D := z.cps.toList.map fun c => .str ⟨#[c]⟩
/-- the items of a list, a tuple, a text -/
def itemsOf : DL.D → T (List DL.D)
  | .list ds => .ret ds
  | .tuple ds => .ret ds
  | .str z => .ret (signs z)
  | _ => .stop
def rngD (lo : Int) (n : Nat) : List DL.D := (List.range n).map fun (i : Nat) => .int (lo + i)
/-- walk what an expression gives: it is given away -/
def iSeq (m : M) : MI := fun σ => (m σ).bind fun p => (look (frz σ p.2) p.1).bind fun d => (itemsOf d).bind fun ds => .ret (ds, p.2 ++ slotsOf p.1)
def big (i : Int) : Bool := decide (-(1000000 : Int) ≤ i ∧ i ≤ 1000000)
def rng1 : List DL.D → T (List DL.D)
  | [.int n] => if big n = true then .ret (rngD 0 n.toNat) else .stop
  | _ => .stop
def rng2 : List DL.D → T (List DL.D)
  | [.int a, .int b] => if big a = true ∧ big b = true then .ret (rngD a (b - a).toNat) else .stop
  | _ => .stop
def iRngM (f : List DL.D → T (List DL.D)) (ms : MA) : MI := fun σ => (ms σ).bind fun p => (looks (frz σ p.2) p.1).bind fun ds => (f ds).bind fun l => .ret (l, p.2)
section
variable {K : PySem.W.Frag} {F F' F0 F1 F2 H H' H0 H1 H2 : Hp} {σ σ' σ0 σ1 σ2 : Env} {σV σV' σV0 σV1 σV2 : L2.St} {m ma mb : M} {v : V} {r : R} {d : DL.D} {i : Nat} {a : Addr} {x : O} {En : Ends}
theorem ItOk.list {xs : List V} {ds : List DL.D} (h : F a = some (.lst xs)) (r : Reps K F xs ds) : ItOk K F (Itl K a) ds where
  go := fun H i e hi => ⟨xs, xs[i]'(by rw [r.len]; exact hi), .inl (.inl (e _ _ h)), List.getElem?_eq_getElem _⟩
  stop := fun H e => ⟨xs, .inl (.inl (e _ _ h)), by rw [r.len]; exact Nat.le_refl _⟩
  yld := fun H H' i x e hi ⟨eH, hx⟩ => by
    subst eH
    obtain ⟨d, h1, h2⟩ := r.get (hx xs (.inl (.inl (e _ _ h))))
    exact ⟨d, h1, fun F1 q1 q2 => ⟨F1, Grow.refl q2, h2.mono q1⟩⟩
theorem ItOk.tup {xs : List V} {ds : List DL.D} (h : SqT K F a xs) (r : Reps K F xs ds) : ItOk K F (Itt K a) ds where
  go := fun H i e hi => ⟨xs, xs[i]'(by rw [r.len]; exact hi), seqT_of e h, List.getElem?_eq_getElem _⟩
  stop := fun H e => ⟨xs, seqT_of e h, by rw [r.len]; exact Nat.le_refl _⟩
  yld := fun H H' i x e hi ⟨eH, hx⟩ => by
    subst eH
    obtain ⟨d, h1, h2⟩ := r.get (hx xs (seqT_of e h))
    exact ⟨d, h1, fun F1 q1 q2 => ⟨F1, Grow.refl q2, h2.mono q1⟩⟩
theorem signs_len (z : Str) : (signs z).length = z.cps.size := by unfold signs; rw [List.length_map, Array.length_toList]
theorem ItOk.text {z : Str} : ItOk K F (Its z) (signs z) where
  go := fun H i e hi => by rw [signs_len] at hi; exact hi
  stop := fun H e => by rw [signs_len]; exact Nat.le_refl _
  yld := fun H H' i x e hi ⟨eH, c, hc, ex⟩ => by
    subst eH ex
    refine ⟨.str ⟨#[c]⟩, ?_, fun F1 q1 q2 => ⟨F1, Grow.refl q2, .str _⟩⟩
    unfold signs
    rw [List.getElem?_map, Array.getElem?_toList, hc]; rfl
theorem ItOk.range {lo : Int} {n : Nat} : ItOk K F (Itr lo n) (rngD lo n) where
  go := fun H i e hi => by unfold rngD at hi; rw [List.length_map, List.length_range] at hi; exact hi
  stop := fun H e => by unfold rngD; rw [List.length_map, List.length_range]; exact Nat.le_refl _
  yld := fun H H' i x e hi ⟨eH, ex⟩ => by
    subst eH ex
    unfold rngD at hi ⊢
    rw [List.length_map, List.length_range] at hi
    refine ⟨.int (lo + i), ?_, fun F1 q1 q2 => ⟨F1, Grow.refl q2, .int _⟩⟩
    rw [List.getElem?_map, List.getElem?_range hi]; rfl
end
section
variable {X : Cx} {tg : Expr}
/-- a list, a tuple or a text is walked -/
def iAny (K : PySem.W.Frag) (tl : TE) : TI := fun σ H R => tl σ H fun x H1 => (∃ a xs, x = .ref a ∧ SqL K H1 a xs ∧ R (Itl K a) H1) ∨ (∃ a xs, x = .ref a ∧ SqT K H1 a xs ∧ R (Itt K a) H1) ∨ ∃ z, x = .str z ∧ R (Its z) H1
theorem pi_any {l : Expr} {tl : TE} (hl : PE X l tl) : PI X tg l (iAny X.K tl) := by
  refine ⟨fun pins s σ H R I h => ?_⟩
  refine thn (hl.run pins s σ H _ I h) fun v s1 ⟨x, H1, I1, r1, q1⟩ => ?_
  rcases q1 with ⟨a, xs, e, hq, q⟩ | ⟨a, xs, e, hq, q⟩ | ⟨z, e, q⟩
  · subst e
    cases r1
    obtain ⟨its, rv, p, hz⟩ := I1.list hq
    refine wpAny_pyIter_list p.isList ?_
    refine ⟨s1.heap.objs.size, [s1.heap.objs.size], _, _, H1, rfl, I1.kept (t' := s1.toks) fun b o e => Heap.get?_push_of_some _ e, turn_list a _, ⟨_, Heap.get?_push_size _ rfl, rfl, rfl⟩, fun b hb => ?_, q⟩
    have e : b = s1.heap.objs.size := by simpa using hb
    subst e
    exact I1.fpOk (Nat.le_refl _) (I1.hok.fresh (Nat.le_refl _))
  · subst e
    cases r1
    obtain ⟨its, rv, p, hz⟩ := I1.tuple hq
    refine wpAny_pyIter_tuple (show s1.heap.IsTuple a its.toArray from p) ?_
    refine ⟨s1.heap.objs.size, [s1.heap.objs.size], _, _, H1, rfl, I1.kept (t' := s1.toks) fun b o e => Heap.get?_push_of_some _ e, turn_tuple a _, ⟨_, Heap.get?_push_size _ rfl, rfl, rfl⟩, fun b hb => ?_, q⟩
    have e : b = s1.heap.objs.size := by simpa using hb
    subst e
    exact I1.fpOk (Nat.le_refl _) (I1.hok.fresh (Nat.le_refl _))
  · subst e
    obtain ⟨t, rfl⟩ := r1
    cases ha : z.cps.all (· < 128)
    · exact wpAny_pyIter_wide ha (pi_one (tk := s1.toks) I1 _ (turn_str _ z t "str_iterator" (.inr rfl)) ⟨_, Heap.get?_push_size _ rfl, rfl, rfl⟩ q)
    · exact wpAny_pyIter_ascii ha (pi_one (tk := s1.toks) I1 _ (turn_str _ z t "str_ascii_iterator" (.inl rfl)) ⟨_, Heap.get?_push_size _ rfl, rfl, rfl⟩ q)
theorem di_seq {m : M} {l : Expr} (h : DE m X l) : DI (iSeq m) X tg l := by
  refine ⟨PI.imp (pi_any h.pe) fun σV H R q => ?_⟩
  obtain ⟨F, σ, s, q⟩ := q
  unfold iSeq at q
  rw [T.wp_bind] at q
  refine LE.then s (T.wp_mono q fun p q x F1 H1 s1 g1 r1 => ?_)
  rw [T.wp_bind] at q
  have rw1 := r1.w s (H0 := H) (k := p.2) fun _ o e => ⟨o, e⟩
  obtain ⟨d, el, _, q⟩ := look_view rw1 s1 q
  obtain ⟨F2, w2, s2, r2⟩ := esc_rep rw1 s1 el
  have g2 := g1.wid (l := slotsOf p.1) w2
  rw [← frz_append] at s2 g2
  rw [T.wp_bind] at q
  cases r2 with
  | non => exact q.elim
  | bl _ => exact q.elim
  | int _ => exact q.elim
  | str z => exact .inr (.inr ⟨z, rfl, q _ F2 H1 s2 g2 ItOk.text⟩)
  | lst hs hr => exact .inl ⟨_, _, rfl, .inl (.inl (s2.le _ _ hs)), q _ F2 H1 s2 g2 (ItOk.list hs hr)⟩
  | tup hs hr => exact .inr (.inl ⟨_, _, rfl, seqT_of s2.le hs, q _ F2 H1 s2 g2 (ItOk.tup hs hr)⟩)
  | dic _ _ => exact q.elim
theorem big_of {i : Int} (h : big i = true) : -(2 ^ 62) ≤ i ∧ i < 2 ^ 62 := by
  have := of_decide_eq_true h
  omega
theorem View.int {K : PySem.W.Frag} {F H : Hp} {v : V} {i : Int} (h : View K F H v (.int i)) : v = .int i := by
  rcases h with h | ⟨a, x, _, _, e⟩
  · cases h; rfl
  · cases x <;> cases e
theorem di_range1 {a : Expr} {ms : MA} {p pos : Pos} (hg : Gl X "range") (hm : X.mg "range" = none) (ha : DA ms X [a]) (hs : starEach [a] X.env = [(false, eval a X.env)] := by rfl) : DI (iRngM rng1 ms) X tg (.Call (.Name "range" p) [a] [] pos) := by
  refine ⟨PI.imp (pi_range1 hg hm ha.pa hs) fun σV H R q => ?_⟩
  obtain ⟨F, σ, s, q⟩ := q
  unfold iRngM at q
  rw [T.wp_bind] at q
  refine ⟨F, σ, s, T.wp_mono q fun p q vs F1 H1 s1 g1 r1 => ?_⟩
  rw [T.wp_bind] at q
  obtain ⟨ds, hv, q⟩ := looks_views r1 s1 q
  rw [T.wp_bind] at q
  unfold rng1 at q
  split at q
  · rename_i n
    split at q
    · rename_i hb
      cases hv with
      | cons h1 hr =>
        cases hr
        rw [h1.int]
        obtain ⟨b1, b2⟩ := big_of hb
        exact ⟨n, rfl, b1, b2, q _ F1 H1 s1 g1 ItOk.range⟩
    · exact q.elim
  · exact q.elim
theorem di_range2 {a b : Expr} {ms : MA} {p pos : Pos} (hg : Gl X "range") (hm : X.mg "range" = none) (ha : DA ms X [a, b]) (hs : starEach [a, b] X.env = [(false, eval a X.env), (false, eval b X.env)] := by rfl) (hs2 : starEach [b] X.env = [(false, eval b X.env)] := by rfl) : DI (iRngM rng2 ms) X tg (.Call (.Name "range" p) [a, b] [] pos) := by
  refine ⟨PI.imp (pi_range2 hg hm ha.pa hs hs2) fun σV H R q => ?_⟩
  obtain ⟨F, σ, s, q⟩ := q
  unfold iRngM at q
  rw [T.wp_bind] at q
  refine ⟨F, σ, s, T.wp_mono q fun p q vs F1 H1 s1 g1 r1 => ?_⟩
  rw [T.wp_bind] at q
  obtain ⟨ds, hv, q⟩ := looks_views r1 s1 q
  rw [T.wp_bind] at q
  unfold rng2 at q
  split at q
  · rename_i i j
    split at q
    · rename_i hb
      cases hv with
      | cons h1 hr =>
        cases hr with
        | cons h2 hr =>
          cases hr
          rw [h1.int, h2.int]
          obtain ⟨b1, b2⟩ := big_of hb.1
          obtain ⟨b3, b4⟩ := big_of hb.2
          exact ⟨i, j, rfl, ⟨b1, b2, b3, b4⟩, q _ F1 H1 s1 g1 ItOk.range⟩
    · exact q.elim
  · exact q.elim
end

/-! ### list comprehensions -/
def mwipe (σ : Env) : List Nat → Env
  | [] => σ
  | i :: r => mwipe (σ.set i .u) r
/-- one clause: σ the block's slots -/
def mLcGo (g : MG) (tt : MT) (te : M) (vs : List Nat) : List DL.D → Env → T (List DL.D × List Nat)
  | [], _ => .ret ([], [])
  | d :: ds, σ => (g d σ).bind fun σ1 => (tt σ1).bind fun p => if p.1 = true then
      (te (frz σ1 p.2)).bind fun q => (look (frz (frz σ1 p.2) q.2) q.1).bind fun y => (mLcGo g tt te vs ds (mwipe (frz σ1 (p.2 ++ (q.2 ++ slotsOf q.1))) vs)).bind fun z => .ret (y :: z.1, (p.2 ++ (q.2 ++ slotsOf q.1)) ++ z.2)
    else (mLcGo g tt te vs ds (mwipe (frz σ1 p.2) vs)).bind fun z => .ret (z.1, p.2 ++ z.2)
def out (vs k : List Nat) : List Nat := k.filter fun i => !vs.contains i
def mLc (mi : MI) (g : MG) (tt : MT) (te : M) (vs : List Nat) : M := fun σ => (mi σ).bind fun p => chk p.1.length ((mLcGo g tt te vs p.1 (mwipe (frz σ p.2) vs)).bind fun z => .ret (.o (.lst z.1), p.2 ++ out vs z.2))
section
variable {K : PySem.W.Frag} {F F' F0 F1 F2 H H' H0 H1 H2 : Hp} {σ σ' σ0 σ1 σ2 : Env} {σV σV' σV0 σV1 σV2 : L2.St} {m ma mb : M} {v : V} {r : R} {d : DL.D} {i : Nat} {a : Addr} {x : O} {En : Ends}
theorem mwipe_len (σ : Env) (vs : List Nat) : (mwipe σ vs).length = σ.length := by
  induction vs generalizing σ with
  | nil => rfl
  | cons i r ih => exact (ih _).trans List.length_set
theorem mwipe_out {vs : List Nat} {j : Nat} (h : j ∉ vs) : (mwipe σ vs)[j]? = σ[j]? := by
  induction vs generalizing σ with
  | nil => rfl
  | cons i r ih =>
    refine (ih (σ := σ.set i .u) fun z => h (List.mem_cons_of_mem _ z)).trans (List.getElem?_set_ne fun z => h (by rw [z]; exact List.mem_cons_self))
theorem mwipe_in {vs : List Nat} {j : Nat} (h : j ∈ vs) {z : Sl} (e : (mwipe σ vs)[j]? = some z) : z = .u := by
  induction vs generalizing σ with
  | nil => cases h
  | cons i r ih =>
    by_cases hr : j ∈ r
    · exact ih hr e
    · have hj : j = i := by
        rcases List.mem_cons.mp h with q | q
        · exact q
        · exact absurd q hr
      subst hj
      have e : (mwipe (σ.set j .u) r)[j]? = some z := e
      rw [mwipe_out hr] at e
      by_cases hl : j < σ.length
      · rw [List.getElem?_set_self hl] at e; exact (Option.some.inj e).symm
      · rw [List.getElem?_eq_none (by rw [List.length_set]; omega)] at e; cases e
theorem mwipe_own {vs : List Nat} {j : Nat} (e : (mwipe σ vs)[j]? = some (.o x)) : j ∉ vs ∧ σ[j]? = some (.o x) := by
  by_cases h : j ∈ vs
  · cases mwipe_in h e
  · exact ⟨h, (mwipe_out h).symm.trans e⟩
theorem wipe_in {vs : List Nat} {j : Nat} (h : j ∈ vs) (hl : j < σV.length) : (wipe σV vs)[j]? = some none := by
  induction vs with
  | nil => cases h
  | cons i r ih =>
    show ((wipe σV r).set i none)[j]? = some none
    by_cases e : j = i
    · subst e; rw [List.getElem?_set_self (by rw [wipe_length]; exact hl)]
    · rw [List.getElem?_set_ne (Ne.symm e)]
      exact ih ((List.mem_cons.mp h).resolve_left e)
theorem Hd.wipe (s : Hd K F H σV σ) (vs : List Nat) : Hd K F H (L2.wipe σV vs) (mwipe σ vs) where
  le := s.le
  len := by rw [wipe_length, mwipe_len]; exact s.len
  val := fun j d e => by
    have h : j ∉ vs := fun z => by cases mwipe_in z e
    rw [mwipe_out h] at e
    rw [wipe_out h]; exact s.val j d e
  own := fun j x e => by
    obtain ⟨h, e⟩ := mwipe_own e
    rw [wipe_out h]; exact s.own j x e
  dis := fun j k x y hjk e1 e2 => by
    obtain ⟨h1, e1⟩ := mwipe_own e1
    obtain ⟨h2, e2⟩ := mwipe_own e2
    rw [wipe_out h1, wipe_out h2]; exact s.dis j k x y hjk e1 e2
theorem NoOwn.wipe {vs : List Nat} (h : NoOwn σ σV a) : NoOwn (mwipe σ vs) (L2.wipe σV vs) a := fun i x e q => by
  obtain ⟨h1, e⟩ := mwipe_own e
  rw [wipe_out h1] at q
  exact h i x e q
/-- frozen within a block: the same outside, but for the block's own slots -/
theorem frz_key {vs : List Nat} : ∀ (k : List Nat) (σ1 σ2 : Env), (∀ j, j ∉ vs → σ1[j]? = σ2[j]?) → σ1.length = σ2.length → ∀ j, j ∉ vs → (frz σ1 k)[j]? = (frz σ2 (out vs k))[j]? := by
  intro k
  induction k with
  | nil => intro σ1 σ2 h _; exact h
  | cons i k ih =>
    intro σ1 σ2 h hl
    by_cases hi : i ∈ vs
    · have e : out vs (i :: k) = out vs k := by
        unfold out; rw [List.filter_cons_of_neg]; simpa using hi
      rw [e]
      refine ih (frz1 σ1 i) σ2 (fun j hj => ?_) ((frz1_len _ _).trans hl)
      rcases frz1_get (σ := σ1) (i := i) (j := j) with q | ⟨q, _⟩
      · exact q.trans (h j hj)
      · subst q; exact absurd hi hj
    · have e : out vs (i :: k) = i :: out vs k := by
        unfold out; rw [List.filter_cons_of_pos]; simpa using hi
      rw [e]
      refine ih (frz1 σ1 i) (frz1 σ2 i) (fun j hj => ?_) ((frz1_len _ _).trans (hl.trans (frz1_len _ _).symm))
      have hs : σ1[i]? = σ2[i]? := h i hi
      unfold frz1
      rw [← hs]
      split
      · split
        · rename_i o _ d _
          by_cases hji : j = i
          · subst hji
            have : j < σ1.length := (List.getElem?_eq_some_iff.mp (by assumption)).1
            rw [List.getElem?_set_self this, List.getElem?_set_self (by omega)]
          · rw [List.getElem?_set_ne (Ne.symm hji), List.getElem?_set_ne (Ne.symm hji)]; exact h j hj
        · exact h j hj
      · exact h j hj
theorem frz_len (σ : Env) (k : List Nat) : (frz σ k).length = σ.length := by
  induction k generalizing σ with
  | nil => rfl
  | cons i k ih => exact (ih _).trans (frz1_len _ _)
theorem out_append (vs k l : List Nat) : out vs (k ++ l) = out vs k ++ out vs l := List.filter_append _ _
theorem frz_stay {k : List Nat} {j : Nat} (h : j ∉ k) : (frz σ k)[j]? = σ[j]? := by
  induction k generalizing σ with
  | nil => rfl
  | cons i k ih =>
    refine (ih (σ := frz1 σ i) fun z => h (List.mem_cons_of_mem _ z)).trans ?_
    rcases frz1_get (σ := σ) (i := i) (j := j) with e | ⟨e, _⟩
    · exact e
    · exact absurd (by rw [e]; exact List.mem_cons_self) h
theorem out_not {vs k : List Nat} {j : Nat} (h : j ∈ vs) : j ∉ out vs k := fun z => by
  have := (List.mem_filter.mp z).2
  simp [h] at this
/-- a block is left -/
theorem unwipe {vs k : List Nat} {τ : Env} (s : Hd K F H σV σ) (hτ : ∀ j, j ∉ vs → τ[j]? = (frz σ (out vs k))[j]?) (hl : τ.length = σ.length) (s' : Hd K F' H' (L2.wipe σV vs) τ) (g : G F (mwipe σ vs) (L2.wipe σV vs) H F' τ (L2.wipe σV vs) H') :
    Hd K F' H' σV (frz σ (out vs k)) ∧ G F σ σV H F' (frz σ (out vs k)) σV H' := by
  have inown : ∀ {j : Nat} {x : O} {a : Addr}, j ∈ vs → σ[j]? = some (.o x) → σV[j]? = some (some (.ref a)) → NoOwn (mwipe σ vs) (L2.wipe σV vs) a := fun {j x a} hj e hV i y hi hiV => by
    obtain ⟨hi1, hi2⟩ := mwipe_own hi
    rw [wipe_out hi1] at hiV
    exact s.dis i j y x (fun z => hi1 (by rw [z]; exact hj)) hi2 e (hiV.trans hV.symm)
  refine ⟨⟨s'.le, by rw [frz_len]; exact s.len, fun j d e => ?_, fun j x e => ?_, fun i j x y hij e1 e2 => s.dis i j x y hij (frz_own e1) (frz_own e2)⟩, ⟨g.ff, fun a o e n => g.nf a o e n.wipe, fun a o e n => g.fr a o e n.wipe, fun i x a e h => .inr (own_no (frz_own e) h), fun i e => ?_, g.th⟩⟩
  · by_cases hj : j ∈ vs
    · rw [frz_stay (out_not hj)] at e
      obtain ⟨v, h1, h2⟩ := s.val j d e
      exact ⟨v, h1, h2.mono g.ff⟩
    · rw [← hτ j hj] at e
      obtain ⟨v, h1, h2⟩ := s'.val j d e
      rw [wipe_out hj] at h1
      exact ⟨v, h1, h2⟩
  · by_cases hj : j ∈ vs
    · rw [frz_stay (out_not hj)] at e
      obtain ⟨a, h1, h2, h3⟩ := s.own j x e
      obtain ⟨o, ho⟩ := h3.there
      have no := inown hj e h1
      exact ⟨a, h1, (g.nf a o ho no).trans h2, h3.mono g.ff fun o' e' => g.fr a o' e' no⟩
    · rw [← hτ j hj] at e
      obtain ⟨a, h1, h2, h3⟩ := s'.own j x e
      rw [wipe_out hj] at h1
      exact ⟨a, h1, h2, h3⟩
  · refine ⟨frz_pool e, rfl, fun a p hV q => ?_⟩
    by_cases hi : i ∈ vs
    · have no := inown hi e hV
      exact q.mono g.ff fun o e' => g.fr a o e' no
    · exact (g.pl i ((mwipe_out hi).trans e)).2.2 a p ((wipe_out hi).trans hV) q
theorem Wid.base (h : Wid H0 σ σV F F') (th : ∀ a o, H a = some o → ∃ u, H0 a = some u) : Wid H σ σV F F' :=
  ⟨h.1, fun a o e n => let ⟨u, hu⟩ := th a o e; h.2 a u hu n⟩
theorem upd_th {p : Addr} {o : HO} (th : ∀ a o, H a = some o → ∃ u, H' a = some u) : ∀ a u, H a = some u → ∃ w, upd H' p o a = some w := fun a u e => by
  by_cases h : a = p
  · subst h; exact ⟨_, upd_same⟩
  · rw [upd_ne h]; exact th a u e
/-- an object that nobody speaks of is changed -/
theorem Hd.upd {p : Addr} {o : HO} (s : Hd K F H σV σ) (hF : F p = none) (no : NoOwn σ σV p) : Hd K F (L2.upd H p o) σV σ where
  le := fun b u e => by rw [upd_ne (ne_of_none e hF)]; exact s.le _ _ e
  len := s.len
  val := s.val
  own := fun i x e => by
    obtain ⟨a, h1, h2, h3⟩ := s.own i x e
    have ha : a ≠ p := fun z => no i x e (by rw [h1, z])
    exact ⟨a, h1, h2, h3.mono (Same.refl _) fun o' e' => by rw [upd_ne ha]; exact e'⟩
  dis := s.dis
theorem G.upd {p : Addr} {o : HO} (g : G F σ σV H F' σ' σV' H') (hp : H p = none) : G F σ σV H F' σ' σV' (L2.upd H' p o) where
  ff := g.ff
  nf := g.nf
  fr := fun a u e n => by rw [upd_ne (ne_of_none e hp)]; exact g.fr a u e n
  ow := g.ow
  pl := fun i e => ⟨(g.pl i e).1, (g.pl i e).2.1, fun a s hV q => by
    have q' := (g.pl i e).2.2 a s hV q
    obtain ⟨_, e1⟩ := ShObj.there q
    exact q'.mono (Same.refl _) fun o' e' => by rw [upd_ne (ne_of_none e1 hp)]; exact e'⟩
  th := upd_th g.th
theorem wipe_eq {vs is : List Nat} (h : Tgt is (wipe σV vs) σV2) (hs : ∀ i ∈ is, i ∈ vs) : wipe σV2 vs = wipe σV vs := by
  obtain ⟨hl, h⟩ := h
  rw [wipe_length] at hl
  refine List.ext_getElem? fun j => ?_
  by_cases hj : j ∈ vs
  · by_cases hlt : j < σV.length
    · rw [wipe_in hj hlt, wipe_in hj (by omega)]
    · rw [List.getElem?_eq_none (by rw [wipe_length]; omega), List.getElem?_eq_none (by rw [wipe_length]; omega)]
  · rw [wipe_out hj, h j fun z => hj (hs j z)]
/-- a target writes its own slots alone, and no object of one's own -/
def GOk (is : List Nat) (g : MG) : Prop := ∀ d σ Q, (g d σ).wp Q → (g d σ).wp fun σ' => Q σ' ∧ σ'.length = σ.length ∧ (∀ j, j ∉ is → σ'[j]? = σ[j]?) ∧ ∀ (j : Nat) x, σ'[j]? = some (.o x) → j ∉ is ∧ σ[j]? = some (.o x)
theorem mLc_le {mi : MI} {g : MG} {tt : MT} {te : M} {vs is : List Nat} {Q : VK} (his : ∀ i ∈ is, i ∈ vs) (hg : GOk is g) (h : LE K (mLc mi g tt te vs) σV H Q) : tLc (LI K mi) (LG K is g) (LT K tt) (LE K te) vs σV H Q := by
  obtain ⟨F, σ, s, h⟩ := h
  unfold mLc at h
  rw [T.wp_bind] at h
  refine ⟨F, σ, s, T.wp_mono h fun p h J F1 H1 s1 g1 it Dn hD => ?_⟩
  obtain ⟨hz, h⟩ := chk_wp h
  rw [T.wp_bind] at h
  obtain ⟨ds, k0⟩ := p
  have it : ItOk K F1 J ds := it
  have hz : ds.length ≤ sizeLine := hz
  have h : (mLcGo g tt te vs ds (mwipe (frz σ k0) vs)).wp fun z => ∀ v F' H', Hd K F' H' σV (frz σ (k0 ++ out vs z.2)) → G F σ σV H F' (frz σ (k0 ++ out vs z.2)) σV H' → RR K F' H' σV H v (.o (.lst z.1)) → Q v H' := h
  have hD0 : H Dn = none := by
    cases q : H Dn with
    | none => rfl
    | some o =>
      obtain ⟨u, hu⟩ := g1.th _ _ q
      rw [hD] at hu; cases hu
  have w1 := s1.wipe vs
  let I : Nat → Hp → Prop := fun i Hc => ∃ F2 τ k acc ys, Hd K F2 Hc (L2.wipe σV vs) τ ∧ G F1 (mwipe (frz σ k0) vs) (L2.wipe σV vs) H1 F2 τ (L2.wipe σV vs) Hc ∧ F2 Dn = none ∧ Hc Dn = some (.lst acc) ∧ acc.length ≤ i ∧ Reps K F2 acc ys ∧
    τ.length = (frz σ k0).length ∧ (∀ j, j ∉ vs → τ[j]? = (frz (frz σ k0) (out vs k))[j]?) ∧ (∀ (j : Nat) x, τ[j]? = some (.o x) → j ∉ vs ∧ (frz σ k0)[j]? = some (.o x)) ∧
    (mLcGo g tt te vs (ds.drop i) τ).wp fun z => ∀ v F' H', Hd K F' H' σV (frz σ (k0 ++ out vs (k ++ z.2))) → G F σ σV H F' (frz σ (k0 ++ out vs (k ++ z.2))) σV H' → RR K F' H' σV H v (.o (.lst (ys ++ z.1))) → Q v H'
  have F1D : F1 Dn = none := s1.le.free hD
  have ownD : ∀ {j : Nat} {x : O}, j ∉ vs → (frz σ k0)[j]? = some (.o x) → σV[j]? ≠ some (some (.ref Dn)) := fun {j x} _ e q => by
    obtain ⟨b, e1, _, e3⟩ := s1.own j x e
    rw [q] at e1; cases e1
    obtain ⟨o, ho⟩ := e3.there
    rw [hD] at ho; cases ho
  have start : I 0 (upd H1 Dn (.lst [])) := by
    refine ⟨F1, _, [], [], [], ?_, ?_, F1D, upd_same, Nat.zero_le _, .nil, mwipe_len _ _, fun j hj => mwipe_out hj, fun j x e => mwipe_own e, ?_⟩
    · exact w1.grow (.newO s1.le hD)
    · exact G.same (.newO s1.le hD)
    · rw [List.drop_zero]; exact h
  refine ⟨fun i n Hc => n = ds.length - i ∧ i ≤ ds.length ∧ I i Hc, ⟨ds.length, rfl, Nat.zero_le _, start⟩, ?_⟩
  rintro i n Hc ⟨rfl, hi, F2, τ, k, acc, ys, s2, g2, F2D, HcD, hacc, ra, tl, tout, town, hgo⟩
  have e12 : Same F1 Hc := g2.ff.trans s2.le
  by_cases hlt : i < ds.length
  · refine .inr ⟨it.go Hc i e12 hlt, fun H' => I (i + 1) H', fun H' q => ⟨ds.length - (i + 1), by omega, rfl, hlt, q⟩, fun x H3 hy => ?_⟩
    obtain ⟨d, hd, hx⟩ := it.yld Hc H3 i x e12 hlt hy
    obtain ⟨F3, gr, rx⟩ := hx F2 g2.ff s2.le
    have s3 := s2.grow gr
    have g3 := g2.trans (G.same gr)
    have F3D : F3 Dn = none := (gr.nw _ _ HcD).trans F2D
    have H3D : H3 Dn = some (.lst acc) := gr.hh _ _ HcD
    have ed : ds.drop i = d :: ds.drop (i + 1) := by
      rw [List.drop_eq_getElem_cons hlt]
      have := List.getElem?_eq_getElem hlt
      rw [hd] at this
      rw [Option.some.inj this]
    rw [ed] at hgo
    have hgo : ((g d τ).bind fun σ1 => (tt σ1).bind fun p => if p.1 = true then
      (te (frz σ1 p.2)).bind fun q => (look (frz (frz σ1 p.2) q.2) q.1).bind fun y => (mLcGo g tt te vs (ds.drop (i + 1)) (mwipe (frz σ1 (p.2 ++ (q.2 ++ slotsOf q.1))) vs)).bind fun z => T.ret (y :: z.1, (p.2 ++ (q.2 ++ slotsOf q.1)) ++ z.2)
      else (mLcGo g tt te vs (ds.drop (i + 1)) (mwipe (frz σ1 p.2) vs)).bind fun z => T.ret (z.1, p.2 ++ z.2)).wp _ := hgo
    rw [T.wp_bind] at hgo
    refine ⟨F3, τ, d, s3, rx, T.wp_mono (hg d τ _ hgo) fun τ1 ⟨hgo, l1, o1, w1⟩ σV2 s4 g4 tg => ⟨wipe_eq tg his, ?_⟩⟩
    have g14 := g3.trans g4
    have noD : NoOwn τ1 σV2 Dn := fun j x e q => by
      obtain ⟨hj, e1⟩ := w1 j x e
      obtain ⟨hj2, e2⟩ := town j x e1
      rw [tg.2 j hj, wipe_out hj2] at q
      exact ownD hj2 e2 q
    -- a turn's end: back in the block's own slots
    have back : ∀ {l : List Nat} {F5 H5 : Hp} {acc' : List V} {ys' : List DL.D}, Hd K F5 H5 σV2 (frz τ1 l) → G F1 (mwipe (frz σ k0) vs) (L2.wipe σV vs) H1 F5 (frz τ1 l) σV2 H5 → F5 Dn = none → H5 Dn = some (.lst acc') → acc'.length ≤ i + 1 → Reps K F5 acc' ys' →
        ((mLcGo g tt te vs (ds.drop (i + 1)) (mwipe (frz τ1 l) vs)).wp fun z => ∀ v F' H', Hd K F' H' σV (frz σ (k0 ++ out vs ((k ++ l) ++ z.2))) → G F σ σV H F' (frz σ (k0 ++ out vs ((k ++ l) ++ z.2))) σV H' → RR K F' H' σV H v (.o (.lst (ys' ++ z.1))) → Q v H') → I (i + 1) H5 := by
      intro l F5 H5 acc' ys' s5 g5 f5 d5 n5 r5 h5
      have s6 := s5.wipe vs
      rw [wipe_eq tg his] at s6
      have hagree : ∀ j, j ∉ vs → τ1[j]? = (frz (frz σ k0) (out vs k))[j]? := fun j hj => (o1 j fun z => hj (his j z)).trans (tout j hj)
      refine ⟨F5, _, k ++ l, acc', ys', s6, ?_, f5, d5, n5, r5, by rw [mwipe_len, frz_len, l1, tl], fun j hj => ?_, fun j x e => ?_, h5⟩
      · refine ⟨g5.ff, g5.nf, g5.fr, fun j x a e q => ?_, fun j e => ?_, g5.th⟩
        · obtain ⟨hj, e⟩ := mwipe_own e
          rw [wipe_out hj] at q
          have hj2 : σV2[j]? = some (some (.ref a)) := by rw [tg.2 j fun z => hj (his j z), wipe_out hj]; exact q
          exact g5.ow j x a e hj2
        · obtain ⟨q1, q2, q3⟩ := g5.pl j e
          have hj : j ∉ vs := (mwipe_own e).1
          exact ⟨(mwipe_out hj).trans q1, rfl, fun a s hV q => q3 a s hV q⟩
      · rw [mwipe_out hj, frz_key (vs := vs) l τ1 _ hagree (by rw [l1, tl, frz_len, frz_len, frz_len]) j hj, ← frz_append, out_append]
      · obtain ⟨hj, e⟩ := mwipe_own e
        have e := (w1 j x (frz_own e)).2
        exact town j x e
    rw [T.wp_bind] at hgo
    refine ⟨F3, τ1, s4, T.wp_mono hgo fun p hgo F4 H4 s5 g5 => ?_⟩
    obtain ⟨b, l⟩ := p
    have H4D : H4 Dn = some (.lst acc) := g5.fr _ _ H3D noD
    have F4D : F4 Dn = none := (g5.nf _ _ H3D noD).trans F3D
    have ra4 : Reps K F4 acc ys := (ra.mono gr.ff).mono g5.ff
    have g15 := g14.trans g5
    cases b with
    | false =>
      have hgo : ((mLcGo g tt te vs (ds.drop (i + 1)) (mwipe (frz τ1 l) vs)).bind fun z => T.ret (z.1, l ++ z.2)).wp _ := hgo
      rw [T.wp_bind] at hgo
      refine back s5 g15 F4D H4D (Nat.le_succ_of_le hacc) ra4 (T.wp_mono hgo fun z hz => ?_)
      have hz : ∀ v F' H', Hd K F' H' σV (frz σ (k0 ++ out vs (k ++ (l ++ z.2)))) → _ := hz
      rw [← List.append_assoc] at hz
      exact hz
    | true =>
      have hgo : ((te (frz τ1 l)).bind fun q => (look (frz (frz τ1 l) q.2) q.1).bind fun y => (mLcGo g tt te vs (ds.drop (i + 1)) (mwipe (frz τ1 (l ++ (q.2 ++ slotsOf q.1))) vs)).bind fun z => T.ret (y :: z.1, (l ++ (q.2 ++ slotsOf q.1)) ++ z.2)).wp _ := hgo
      rw [T.wp_bind] at hgo
      refine ⟨F4, _, s5, T.wp_mono hgo fun q hgo yv F5 H5 s6 g6 ry => ?_⟩
      rw [T.wp_bind] at hgo
      have rw1 := ry.w s5 (H0 := H4) (k := q.2) fun _ o e => ⟨o, e⟩
      obtain ⟨y, el, _, hgo⟩ := look_view rw1 s6 hgo
      obtain ⟨F6, w6, s7, r6⟩ := esc_rep rw1 s6 el
      have noD4 : NoOwn (frz τ1 l) σV2 Dn := noD.frz
      have noD5 : NoOwn (frz (frz τ1 l) q.2) σV2 Dn := noD4.frz
      have H5D : H5 Dn = some (.lst acc) := g6.fr _ _ H4D noD4
      have F5D : F5 Dn = none := (g6.nf _ _ H4D noD4).trans F4D
      have F6D : F6 Dn = none := (w6.2 _ _ H4D noD5).trans F5D
      have th : ∀ a o, H1 a = some o → ∃ u, H4 a = some u := g15.th
      have g16 := (g15.trans g6)
      have g7 : G F1 (mwipe (frz σ k0) vs) (L2.wipe σV vs) H1 F6 (frz (frz (frz τ1 l) q.2) (slotsOf q.1)) σV2 H5 := by
        have w6' := w6.base th
        refine ⟨g16.ff.trans w6.1, fun a o e n => ?_, g16.fr, fun j x a e q' => g16.ow j x a (frz_own e) q', fun j e => ?_, g16.th⟩
        · refine (w6'.2 a o e fun j x hj hV => ?_).trans (g16.nf a o e n)
          rcases g16.ow j x a hj hV with z | z
          · rw [e] at z; cases z
          · exact z n
        · obtain ⟨q1, q2, q3⟩ := g16.pl j e
          exact ⟨frz_pool q1, q2, fun a s hV z => (q3 a s hV z).mono w6.1 fun _ t => t⟩
      have ef : frz (frz (frz τ1 l) q.2) (slotsOf q.1) = frz τ1 (l ++ (q.2 ++ slotsOf q.1)) := by rw [frz_append, frz_append]
      rw [ef] at s7 g7
      have noD6 : NoOwn (frz τ1 (l ++ (q.2 ++ slotsOf q.1))) σV2 Dn := noD.frz
      have r5 : Reps K F6 acc ys := (ra4.mono g6.ff).mono w6.1
      refine ⟨acc, H5D, by omega, ?_⟩
      rw [T.wp_bind] at hgo
      refine back (s7.upd F6D noD6) (g7.upd hD) F6D upd_same (by rw [List.length_append]; exact Nat.add_le_add_right hacc 1) (r5.append (.cons r6 .nil)) (T.wp_mono hgo fun z hz => ?_)
      have hz : ∀ v F' H', Hd K F' H' σV (frz σ (k0 ++ out vs (k ++ ((l ++ (q.2 ++ slotsOf q.1)) ++ z.2)))) → G F σ σV H F' (frz σ (k0 ++ out vs (k ++ ((l ++ (q.2 ++ slotsOf q.1)) ++ z.2)))) σV H' → RR K F' H' σV H v (.o (.lst (ys ++ y :: z.1))) → Q v H' := hz
      rw [← List.append_assoc] at hz
      intro v F' H' a b c
      refine hz v F' H' a b ?_
      rw [List.append_assoc] at c
      exact c
  · have e : i = ds.length := by omega
    subst e
    rw [List.drop_length] at hgo
    obtain ⟨s9, g9⟩ := unwipe s1 tout tl s2 g2
    have hgo : ∀ v F' H', Hd K F' H' σV (frz σ (k0 ++ out vs (k ++ []))) → G F σ σV H F' (frz σ (k0 ++ out vs (k ++ []))) σV H' → RR K F' H' σV H v (.o (.lst (ys ++ []))) → Q v H' := hgo
    rw [List.append_nil, List.append_nil, frz_append] at hgo
    exact .inl ⟨it.stop Hc e12, hgo _ F2 Hc s9 (g1.trans g9) (.o (by intro z; cases z) F2D hD0 ⟨acc, HcD, ra⟩)⟩
end
end DL

namespace DL
open PySem PySem.Spec PyProof.Rows L2
variable [ShObj]

section
variable {X : Cx} {pins : List (Addr × Obj)} {σ : L2.St} {F H : Hp} {s : Shared}
/-! ### what a value is -/
theorem View.bool {K : PySem.W.Frag} {v : V} {b : Bool} (h : View K F H v (.bool b)) : v = .bl b := by
  rcases h with h | ⟨a, x, _, _, e⟩
  · cases h; rfl
  · cases x <;> cases e
theorem View.str {K : PySem.W.Frag} {v : V} {b : Str} (h : View K F H v (.str b)) : v = .str b := by
  rcases h with h | ⟨a, x, _, _, e⟩
  · cases h; rfl
  · cases x <;> cases e
theorem View.none {K : PySem.W.Frag} {v : V} (h : View K F H v .none) : v = .non := by
  rcases h with h | ⟨a, x, _, _, e⟩
  · cases h; rfl
  · cases x <;> cases e
theorem View.tup {K : PySem.W.Frag} {v : V} {ds : List DL.D} (h : View K F H v (.tuple ds)) (e : Same F H) : ∃ a xs, v = .ref a ∧ SqT K H a xs ∧ SqT K F a xs ∧ Reps K F xs ds := by
  rcases h with h | ⟨a, x, _, _, e⟩
  · cases h with
    | tup hs hr => exact ⟨_, _, rfl, seqT_of e hs, hs, hr⟩
  · cases x <;> cases e
theorem View.list {K : PySem.W.Frag} {v : V} {ds : List DL.D} (h : View K F H v (.list ds)) (e : Same F H) : ∃ a xs, v = .ref a ∧ H a = some (.lst xs) ∧ Reps K F xs ds := by
  rcases h with h | ⟨a, x, rfl, ho, e'⟩
  · cases h with
    | lst hs hr => exact ⟨_, _, rfl, e _ _ hs, hr⟩
  · cases x with
    | lst _ => cases e'; obtain ⟨vs, h1, h2⟩ := ho; exact ⟨a, vs, rfl, h1, h2⟩
    | dic _ => cases e'
    | pool => cases e'
    | rng _ _ => cases e'
    | bor _ _ => cases e'
theorem View.dict {K : PySem.W.Frag} {v : V} {ds : List (DL.D × DL.D)} (h : View K F H v (.dict ds)) (e : Same F H) : ∃ a xs, v = .ref a ∧ H a = some (.dK xs) ∧ RepK K F xs ds := by
  rcases h with h | ⟨a, x, rfl, ho, e'⟩
  · cases h with
    | dic hs hr => exact ⟨_, _, rfl, e _ _ hs, hr⟩
  · cases x with
    | lst _ => cases e'
    | dic _ => cases e'; obtain ⟨vs, h1, h2⟩ := ho; exact ⟨a, vs, rfl, h1, h2⟩
    | pool => cases e'
    | rng _ _ => cases e'
    | bor _ _ => cases e'; obtain ⟨_, vs, h1, h2⟩ := ho; exact ⟨a, vs, rfl, h1, h2⟩
theorem View.isNone {K : PySem.W.Frag} {v : V} {d : DL.D} (h : View K F H v d) : decide (v = .non) = (match d with | .none => true | _ => false) := by
  rcases h with h | ⟨a, x, rfl, ho, e'⟩
  · cases h <;> rfl
  · cases x <;> cases e' <;> rfl

/-! ### data as the library reads it -/
theorem key_reads {P : Program} {w : World} {h : Heap} {k : Key} {u : Value} (p : (mixKind P w).is k u = true) : ∃ as, Reads h u (keyD k) as := by
  rcases keyIs_shape (show keyIs k u = true from p) with ⟨i, t, z1, z2⟩ | ⟨x, t, z1, z2⟩
  · rw [z1, z2]; exact ⟨_, Reads.int i t⟩
  · rw [z1, z2]; exact ⟨_, Reads.str x t⟩
mutual
theorem Rep.reads (I : Inv X pins σ H s) (e : Same F H) : ∀ (d : DL.D) (v : V) (u : Value), Rep X.K F v d → RelV v u → ∃ as, Reads s.heap u d as
  | .none, _, _, h, r => by cases h; cases r; exact ⟨_, Reads.none⟩
  | .bool b, _, _, h, r => by cases h; cases r; exact ⟨_, Reads.bool b⟩
  | .int i, _, _, h, r => by cases h; obtain ⟨t, rfl⟩ := r; exact ⟨_, Reads.int i t⟩
  | .str x, _, _, h, r => by cases h; obtain ⟨t, rfl⟩ := r; exact ⟨_, Reads.str x t⟩
  | .list ds, _, _, h, r => by
    cases h with
    | lst hs ha =>
      cases r
      obtain ⟨its, rv, ⟨o, n, ho, hc, _, hd⟩, _⟩ := I.list (.inl (.inl (e _ _ hs)))
      obtain ⟨as, hr⟩ := Reps.reads I e ds _ its ha rv
      exact ⟨_, Reads.list ho hc hd hr⟩
  | .tuple ds, _, _, h, r => by
    cases h with
    | tup hs ha =>
      cases r
      obtain ⟨its, rv, ⟨o, ho, hc, n, hd⟩, _⟩ := I.tuple (seqT_of e hs)
      obtain ⟨as, hr⟩ := Reps.reads I e ds _ its ha rv
      exact ⟨_, Reads.tuple ho hc hd hr⟩
  | .dict kvs, _, _, h, r => by
    cases h with
    | dic hs ha =>
      cases r
      obtain ⟨_, _, vs, kv, o, es, ep, ho, hx, hd, _, hp, _⟩ := I.hok _ _ (e _ _ hs)
      have : ∃ as bs, ReadsAll s.heap (es.toList.map (·.key)) (kvs.map (·.1)) as ∧ ReadsAll s.heap (es.toList.map (·.val)) (kvs.map (·.2)) bs := RepK.reads I e kvs _ vs es.toList ha kv hp
      obtain ⟨as, bs, h1, h2⟩ := this
      exact ⟨_, Reads.dict ho hx.1 hd h1 h2⟩
theorem Reps.reads (I : Inv X pins σ H s) (e : Same F H) : ∀ (ds : List DL.D) (vs : List V) (us : List Value), Reps X.K F vs ds → Vals vs us → ∃ as, ReadsAll s.heap us ds as
  | [], _, _, h, r => by cases h; cases r; exact ⟨_, ReadsAll.nil⟩
  | d :: ds, _, _, h, r => by
    cases h with
    | cons h1 h2 =>
      cases r with
      | cons r1 r2 =>
        obtain ⟨as, q1⟩ := Rep.reads I e d _ _ h1 r1
        obtain ⟨bs, q2⟩ := Reps.reads I e ds _ _ h2 r2
        exact ⟨_, ReadsAll.cons q1 q2⟩
theorem RepK.reads (I : Inv X pins σ H s) (e : Same F H) : ∀ (ds : List (DL.D × DL.D)) (vs : List (Key × V)) (us : List (Key × Value)) (es : List DictEntry), RepK X.K F vs ds → KV vs us → PySem.Pairs (mixKind X.prog X.w) es us →
    ∃ as bs, ReadsAll s.heap (es.map (·.key)) (ds.map (·.1)) as ∧ ReadsAll s.heap (es.map (·.val)) (ds.map (·.2)) bs
  | [], _, _, _, h, r, p => by cases h; cases r; cases p; exact ⟨_, _, ReadsAll.nil, ReadsAll.nil⟩
  | (kd, d) :: ds, _, _, _, h, r, p => by
    cases h with
    | @cons k v vs _ _ h1 h2 =>
      cases r with
      | cons r1 r2 =>
        cases p with
        | @cons en kv' es' us' p1 p2 p3 =>
          obtain ⟨as, bs, q1, q2⟩ := RepK.reads I e ds _ _ _ h2 r2 p3
          obtain ⟨e1, e2⟩ := r1
          obtain ⟨cs, q3⟩ := Rep.reads I e d _ _ h1 e2
          obtain ⟨ks, hk⟩ := key_reads (h := s.heap) p1
          have e1 : k = _ := e1
          rw [← e1] at hk
          have q3 : Reads s.heap en.val d cs := by rw [p2]; exact q3
          exact ⟨_, _, ReadsAll.cons hk q1, ReadsAll.cons q3 q2⟩
end
theorem View.reads (I : Inv X pins σ H s) (e : Same F H) {v : V} {u : Value} {d : DL.D} (h : View X.K F H v d) (r : RelV v u) : ∃ as, Reads s.heap u d as := by
  rcases h with h | ⟨a, x, rfl, ho, e'⟩
  · exact h.reads I e d v u r
  · cases x with
    | lst ds =>
      cases e'
      obtain ⟨vs, h1, h2⟩ := ho
      cases r
      obtain ⟨its, rv, ⟨o, n, ho, hc, _, hd⟩, _⟩ := I.list (.inl (.inl h1))
      obtain ⟨as, hr⟩ := Reps.reads I e ds _ its h2 rv
      exact ⟨_, Reads.list ho hc hd hr⟩
    | dic kvs =>
      cases e'
      obtain ⟨vs, h1, h2⟩ := ho
      cases r
      obtain ⟨_, _, ws, kv, o, es, ep, ho, hx, hd, _, hp, _⟩ := I.hok _ _ h1
      obtain ⟨as, bs, h3, h4⟩ := RepK.reads I e _ _ ws es.toList h2 kv hp
      exact ⟨_, Reads.dict ho hx.1 hd h3 h4⟩
    | pool => cases e'
    | rng _ _ => cases e'
    | bor _ kvs =>
      cases e'
      obtain ⟨_, vs, h1, h2⟩ := ho
      cases r
      obtain ⟨_, _, ws, kv, o, es, ep, ho, hx, hd, _, hp, _⟩ := I.hok _ _ h1
      obtain ⟨as, bs, h3, h4⟩ := RepK.reads I e _ _ ws es.toList h2 kv hp
      exact ⟨_, Reads.dict ho hx.1 hd h3 h4⟩
theorem grow_fin {K : PySem.W.Frag} {Q : VK} {r : R} {v : V} (h : ∀ v F' H', Grow F H F' H' → R0 K F' H' H v r → Q v H') (e : Same F H) (hr : R0 K F H H v r) : Q v H := h v F H (Grow.refl e) hr
end

/-! ### operators -/
def dI (f : Int → Int → DL.D) (d e : DL.D) : T R := match d, e with
  | .int i, .int j => .ret (.v (f i j))
  | _, _ => .stop
def dAdd (d e : DL.D) : T R := match d, e with
  | .int i, .int j => .ret (.v (.int (i + j)))
  | .str a, .str b => chk (a.length + b.length) (.ret (.v (.str (a ++ b))))
  | .tuple xs, .tuple ys => chk (xs.length + ys.length) (.ret (.v (.tuple (xs ++ ys))))
  | .list xs, .list ys => chk (xs.length + ys.length) (.ret (.o (.lst (xs ++ ys))))
  | _, _ => .stop
def dSub (d e : DL.D) : T R := dI (fun i j => .int (i - j)) d e
def small (i : Int) : Bool := decide (-(2 ^ 64 : Int) < i ∧ i < 2 ^ 64)
def dMul (d e : DL.D) : T R := match d, e with
  | .int i, .int j => if (small j || small i) = true then .ret (.v (.int (i * j))) else .stop
  | _, _ => .stop
def dDiv (d e : DL.D) : T R := match d, e with
  | .int i, .int j => if 0 < j ∧ j < 1073741824 then .ret (.v (.int (i / j))) else if j ≠ 0 ∧ j.natAbs < 1073741824 then .ret (.v (.int (i.fdiv j))) else .stop
  | _, _ => .stop
def dMod (d e : DL.D) : T R := match d, e with
  | .int i, .int j => if 0 < j then .ret (.v (.int (i % j))) else if j ≠ 0 then .ret (.v (.int (i.fmod j))) else .stop
  | _, _ => .stop
def dPow (d e : DL.D) : T R := match d, e with
  | .int i, .int j => if 0 ≤ j ∧ j ≤ 1000 ∧ i.natAbs < 2 ^ 64 then .ret (.v (.int (i ^ j.toNat))) else .stop
  | _, _ => .stop
def dNeg (d : DL.D) : T R := match d with
  | .int i => .ret (.v (.int (-i)))
  | _ => .stop
section
variable {X : Cx}
theorem od_I {g : Value → Value → Sem Value} {f : Int → Int → V} {f' : Int → Int → DL.D} (h : OpR X g (rI0 f)) (hf : ∀ F i j, Rep X.K F (f i j) (f' i j)) : OpD X g (dI f') := by
  intro pins s σ H x y v u Q I rx ry ⟨F, d, e, hle, hx, hy, q⟩
  unfold dI at q
  split at q
  · rw [hx.int] at rx; rw [hy.int] at ry
    exact h pins s σ H _ _ v u Q I rx ry ⟨_, _, rfl, rfl, grow_fin q hle (.v (hf F _ _))⟩
  · exact q.elim
theorem od_add : OpD X (binaryOp .Add) dAdd := by
  intro pins s σ H x y v u Q I rx ry ⟨F, d, e, hle, hx, hy, q⟩
  unfold dAdd at q
  split at q
  · rw [hx.int] at rx; rw [hy.int] at ry
    exact op_add pins s σ H _ _ v u Q I rx ry ⟨_, _, rfl, rfl, grow_fin q hle (.v (.int _))⟩
  · rw [hx.str] at rx; rw [hy.str] at ry
    obtain ⟨hz, q⟩ := chk_wp q
    exact op_add_str pins s σ H _ _ v u Q I rx ry ⟨_, _, rfl, rfl, hz, grow_fin q hle (.v (.str _))⟩
  · obtain ⟨hz, q⟩ := chk_wp q
    obtain ⟨a, xs, rfl, h1, h1', r1⟩ := hx.tup hle
    obtain ⟨b, ys, rfl, h2, h2', r2⟩ := hy.tup hle
    refine op_catA pins s σ H _ _ v u Q I rx ry ⟨a, b, xs, ys, rfl, rfl, h1, h2, by rw [r1.len, r2.len]; exact hz, fun e => ?_, fun _ e => ?_, fun _ _ p hp => ?_⟩
    · subst e
      cases r1
      exact grow_fin q hle (.v (.tup h2' r2))
    · subst e
      cases r2
      refine grow_fin q hle (.v ?_)
      rw [List.append_nil]; exact .tup h1' r1
    · have gr : Grow F H (upd F p (.tup (xs ++ ys))) (upd H p (.tup (xs ++ ys))) := .new hle hp
      exact q _ _ _ gr (.v (.tup (.inl (.inl upd_same)) ((r1.append r2).mono gr.ff)))
  · obtain ⟨hz, q⟩ := chk_wp q
    obtain ⟨a, xs, rfl, h1, r1⟩ := hx.list hle
    obtain ⟨b, ys, rfl, h2, r2⟩ := hy.list hle
    refine op_cat pins s σ H _ _ v u Q I rx ry ⟨a, b, xs, ys, rfl, rfl, h1, h2, by rw [r1.len, r2.len]; exact hz, fun p hp => ?_⟩
    exact q _ _ _ (.newO hle hp) (.o (by intro z; cases z) (hle.free hp) hp ⟨_, upd_same, r1.append r2⟩)
  · exact q.elim
theorem od_sub : OpD X (binaryOp .Sub) dSub := od_I op_sub fun F i j => .int _
theorem od_mul : OpD X (binaryOp .Mult) dMul := by
  intro pins s σ H x y v u Q I rx ry ⟨F, d, e, hle, hx, hy, q⟩
  unfold dMul at q
  split at q
  · rw [hx.int] at rx; rw [hy.int] at ry
    split at q
    · rename_i hc
      have hc : CMul _ _ := ((Bool.or_eq_true _ _).mp hc).symm.imp of_decide_eq_true of_decide_eq_true
      exact op_mul pins s σ H _ _ v u Q I rx ry ⟨_, _, rfl, rfl, hc, grow_fin q hle (.v (.int _))⟩
    · exact q.elim
  · exact q.elim
theorem od_div : OpD X (binaryOp .FloorDiv) dDiv := by
  intro pins s σ H x y v u Q I rx ry ⟨F, d, e, hle, hx, hy, q⟩
  unfold dDiv at q
  split at q
  · rw [hx.int] at rx; rw [hy.int] at ry
    split at q
    · rename_i hc
      exact op_fdiv pins s σ H _ _ v u Q I rx ry ⟨_, _, rfl, rfl, hc, grow_fin q hle (.v (.int _))⟩
    · split at q
      · rename_i hc
        exact op_fdivN pins s σ H _ _ v u Q I rx ry ⟨_, _, rfl, rfl, hc, grow_fin q hle (.v (.int _))⟩
      · exact q.elim
  · exact q.elim
theorem od_mod : OpD X (binaryOp .Mod) dMod := by
  intro pins s σ H x y v u Q I rx ry ⟨F, d, e, hle, hx, hy, q⟩
  unfold dMod at q
  split at q
  · rw [hx.int] at rx; rw [hy.int] at ry
    split at q
    · rename_i hc
      exact op_mod pins s σ H _ _ v u Q I rx ry ⟨_, _, rfl, rfl, hc, grow_fin q hle (.v (.int _))⟩
    · split at q
      · rename_i hc
        exact op_modN pins s σ H _ _ v u Q I rx ry ⟨_, _, rfl, rfl, hc, grow_fin q hle (.v (.int _))⟩
      · exact q.elim
  · exact q.elim
theorem od_pow : OpD X (binaryOp .Pow) dPow := by
  intro pins s σ H x y v u Q I rx ry ⟨F, d, e, hle, hx, hy, q⟩
  unfold dPow at q
  split at q
  · rw [hx.int] at rx; rw [hy.int] at ry
    split at q
    · rename_i hc
      exact op_pow pins s σ H _ _ v u Q I rx ry ⟨_, _, rfl, rfl, ⟨hc.1, by omega, hc.2.2⟩, grow_fin q hle (.v (.int _))⟩
    · exact q.elim
  · exact q.elim
theorem ud_neg : UnD X (unaryOp .USub) dNeg := by
  intro pins s σ H x v Q I rx ⟨F, d, hle, hx, q⟩
  unfold dNeg at q
  split at q
  · rw [hx.int] at rx
    exact un_neg pins s σ H _ v Q I rx ⟨_, rfl, grow_fin q hle (.v (.int _))⟩
  · exact q.elim
end

/-! ### comparisons -/
def eqD (d e : DL.D) : Option Bool := match d, e with
  | .int i, .int j => some (decide (i = j))
  | .str a, .str b => some (decide (a = b))
  | .bool a, .bool b => some (decide (a = b))
  | d, e => if (d.canLay0 && e.canLay0 && decide (min d.depth e.depth ≤ 100)) = true then some (PyData.eqv d e) else none
def ofB (o : Option Bool) : T R := match o with | some b => .ret (.v (.bool b)) | none => .stop
def dEq (d e : DL.D) : T R := ofB (eqD d e)
def dNe (d e : DL.D) : T R := ofB ((eqD d e).map (!·))
def intsD : List DL.D → Option (List Int)
  | [] => some []
  | .int i :: r => (intsD r).map (i :: ·)
  | _ => none
def ltD (d e : DL.D) : Option Bool := match d, e with
  | .int i, .int j => some (decide (i < j))
  | .tuple xs, .tuple ys => (match intsD xs, intsD ys with | some a, some b => some (HT.lexLt a b) | _, _ => none)
  | _, _ => none
def dLt (d e : DL.D) : T R := ofB (ltD d e)
def leD (d e : DL.D) : Option Bool := match d, e with
  | .int i, .int j => some (decide (i ≤ j))
  | _, _ => none
def dLe (d e : DL.D) : T R := ofB (leD d e)
def dGt (d e : DL.D) : T R := dI (fun i j => .bool (decide (j < i))) d e
def dGe (d e : DL.D) : T R := dI (fun i j => .bool (decide (j ≤ i))) d e
def isNone : DL.D → Bool
  | .none => true
  | _ => false
def dIs (d e : DL.D) : T R := match e with | .none => .ret (.v (.bool (isNone d))) | _ => .stop
def dIsNot (d e : DL.D) : T R := match e with | .none => .ret (.v (.bool (!isNone d))) | _ => .stop
def subStr (a b : Str) : Bool := !(Builtin.Str.occurrences b a 0 b.length 1).isEmpty
def keyOf : DL.D → Option Key
  | .int i => some (.inl i)
  | .str x => some (.inr x)
  | _ => none
def isKey (d : DL.D) (k : Key) : Bool := match d, k with
  | .int i, .inl j => decide (i = j)
  | .str a, .inr b => decide (a = b)
  | _, _ => false
/-- what a dict has for a key -/
def lookD (kvs : List (DL.D × DL.D)) (k : Key) : Option DL.D := (kvs.find? fun p => isKey p.1 k).map (·.2)
theorem isKey_keyD (k k' : Key) : isKey (keyD k') k = decide (k' = k) := by
  cases k <;> cases k' <;> simp [isKey, keyD]
theorem RepK.look {K : PySem.W.Frag} {F : Hp} {vs : List (Key × V)} {ds : List (DL.D × DL.D)} (r : RepK K F vs ds) (k : Key) : (∃ v d, valV vs k = some v ∧ lookD ds k = some d ∧ Rep K F v d) ∨ (valV vs k = none ∧ lookD ds k = none) := by
  induction vs generalizing ds with
  | nil => cases r; exact .inr ⟨rfl, rfl⟩
  | cons p vs ih =>
    cases r with
    | cons h r =>
      rename_i k' v d ds
      unfold valV lookD
      rw [List.find?_cons, List.find?_cons, isKey_keyD]
      by_cases e : k' = k
      · rw [decide_eq_true e]; exact .inl ⟨_, _, rfl, rfl, h⟩
      · rw [decide_eq_false e]; exact ih r
theorem View.key {K : PySem.W.Frag} {F H : Hp} {v : V} {d : DL.D} {k : Key} (h : View K F H v d) (e : keyOf d = some k) : v = kV k := by
  cases d with
  | int i => cases e; exact h.int
  | str x => cases e; exact h.str
  | _ => cases e
theorem View.dget {K : PySem.W.Frag} {F H : Hp} {v w : V} {ds : List (DL.D × DL.D)} {d : DL.D} {k : Key} (h : View K F H v (.dict ds)) (hle : Same F H) (hw : View K F H w d) (e : keyOf d = some k) :
    ∃ a o, v = .ref a ∧ DGet H a w o ∧ o.isSome = (lookD ds k).isSome ∧ ∀ x, lookD ds k = some x → ∃ y, o = some y ∧ Rep K F y x := by
  obtain ⟨a, xs, rfl, h1, r⟩ := h.dict hle
  rw [hw.key e]
  refine ⟨a, _, rfl, DGet.k h1, ?_⟩
  rcases r.look k with ⟨y, x, e1, e2, hr⟩ | ⟨e1, e2⟩
  · rw [e1, e2]; exact ⟨rfl, fun z hz => by cases hz; exact ⟨_, rfl, hr⟩⟩
  · rw [e1, e2]; exact ⟨rfl, fun z hz => by cases hz⟩
def inD (d e : DL.D) : Option Bool := match e with
  | .list xs => if (PyData.canLayAll0 xs && d.canLay0 && decide (min (PyData.depthAll xs) d.depth ≤ 100)) = true then some (xs.any fun y => PyData.eqv y d) else none
  | .tuple xs => if (PyData.canLayAll0 xs && d.canLay0 && decide (min (PyData.depthAll xs) d.depth ≤ 100)) = true then some (xs.any fun y => PyData.eqv y d) else none
  | .str b => (match d with | .str a => some (subStr a b) | _ => none)
  | .dict kvs => (match keyOf d with | some k => some (lookD kvs k).isSome | none => none)
  | _ => none
def dIn (d e : DL.D) : T R := ofB (inD d e)
def dNotIn (d e : DL.D) : T R := ofB ((inD d e).map (!·))
section
variable {X : Cx}
theorem ofB_wp {o : Option Bool} {Q : R → Prop} (h : (ofB o).wp Q) : ∃ b, o = some b ∧ Q (.v (.bool b)) := by
  cases o with
  | none => exact h.elim
  | some b => exact ⟨b, rfl, h⟩
theorem od_eq (hu : X.A.units + 150 < cLine) : OpD X (compareOp .Eq) dEq := by
  intro pins s σ H x y v u Q I rx ry ⟨F, d, e, hle, hx, hy, q⟩
  obtain ⟨b, hb, q⟩ := ofB_wp q
  have fin : Q (.bl b) H := grow_fin q hle (.v (.bl b))
  unfold eqD at hb
  split at hb
  · cases hb
    rw [hx.int] at rx; rw [hy.int] at ry
    refine op_eq pins s σ H _ _ v u Q I rx ry ⟨rfl, ?_⟩
    rw [dec_int]; exact fin
  · cases hb
    rw [hx.str] at rx; rw [hy.str] at ry
    refine op_eq pins s σ H _ _ v u Q I rx ry ⟨rfl, ?_⟩
    rw [dec_str]; exact fin
  · cases hb
    rw [hx.bool] at rx; rw [hy.bool] at ry
    refine op_eq pins s σ H _ _ v u Q I rx ry ⟨rfl, ?_⟩
    rw [dec_bl]; exact fin
  · split at hb
    · rename_i hc
      cases hb
      simp only [Bool.and_eq_true, decide_eq_true_eq] at hc
      obtain ⟨as, r1⟩ := hx.reads I hle rx
      obtain ⟨bs, r2⟩ := hy.reads I hle ry
      exact SeqAt.compareEq_reads r1 r2 hc.1.1 hc.1.2 (by omega) ⟨.bl _, H, I, rfl, fin⟩
    · cases hb
theorem od_ne (hu : X.A.units + 150 < cLine) : OpD X (compareOp .NotEq) dNe := by
  intro pins s σ H x y v u Q I rx ry ⟨F, d, e, hle, hx, hy, q⟩
  obtain ⟨b, hb, q⟩ := ofB_wp q
  obtain ⟨b', hb', rfl⟩ := Option.map_eq_some_iff.mp hb
  clear hb
  have hb := hb'
  clear hb'
  have fin : Q (.bl (!b')) H := grow_fin q hle (.v (.bl _))
  unfold eqD at hb
  split at hb
  · cases hb
    rw [hx.int] at rx; rw [hy.int] at ry
    refine op_ne pins s σ H _ _ v u Q I rx ry ⟨rfl, ?_⟩
    rw [dec_int]; exact fin
  · cases hb
    rw [hx.str] at rx; rw [hy.str] at ry
    refine op_ne pins s σ H _ _ v u Q I rx ry ⟨rfl, ?_⟩
    rw [dec_str]; exact fin
  · cases hb
    rw [hx.bool] at rx; rw [hy.bool] at ry
    refine op_ne pins s σ H _ _ v u Q I rx ry ⟨rfl, ?_⟩
    rw [dec_bl]; exact fin
  · split at hb
    · rename_i hc
      cases hb
      simp only [Bool.and_eq_true, decide_eq_true_eq] at hc
      obtain ⟨as, r1⟩ := hx.reads I hle rx
      obtain ⟨bs, r2⟩ := hy.reads I hle ry
      exact SeqAt.compareNe_reads r1 r2 hc.1.1 hc.1.2 (by omega) ⟨.bl _, H, I, rfl, fin⟩
    · cases hb
theorem ints_reps {K : PySem.W.Frag} {F : Hp} : ∀ {ds : List DL.D} {ns : List Int} {xs : List V}, intsD ds = some ns → Reps K F xs ds → xs = ns.map V.int
  | [], _, _, h, r => by cases h; cases r; rfl
  | d :: ds, ns, xs, h, r => by
    cases r with
    | cons h1 h2 =>
      cases d with
      | int i =>
        obtain ⟨ms, e, rfl⟩ := Option.map_eq_some_iff.mp (show (intsD ds).map (i :: ·) = some ns from h)
        cases h1
        rw [ints_reps e h2]; rfl
      | none => cases h
      | bool _ => cases h
      | str _ => cases h
      | list _ => cases h
      | tuple _ => cases h
      | dict _ => cases h
theorem od_lt (hu : X.A.units + 150 < cLine) : OpD X (compareOp .Lt) dLt := by
  intro pins s σ H x y v u Q I rx ry ⟨F, d, e, hle, hx, hy, q⟩
  obtain ⟨b, hb, q⟩ := ofB_wp q
  have fin : Q (.bl b) H := grow_fin q hle (.v (.bl b))
  unfold ltD at hb
  split at hb
  · cases hb
    rw [hx.int] at rx; rw [hy.int] at ry
    exact op_lt pins s σ H _ _ v u Q I rx ry ⟨_, _, rfl, rfl, fin⟩
  · split at hb
    · rename_i a b ha hb'
      cases hb
      obtain ⟨p, xs, rfl, h1, _, r1⟩ := hx.tup hle
      obtain ⟨p', ys, rfl, h2, _, r2⟩ := hy.tup hle
      rw [ints_reps ha r1] at h1
      rw [ints_reps hb' r2] at h2
      exact op_ltT (by omega) pins s σ H _ _ v u Q I rx ry ⟨p, p', a, b, rfl, rfl, h1, h2, fin⟩
    · cases hb
  · cases hb
theorem od_le : OpD X (compareOp .LtE) dLe := by
  intro pins s σ H x y v u Q I rx ry ⟨F, d, e, hle, hx, hy, q⟩
  obtain ⟨b, hb, q⟩ := ofB_wp q
  have fin : Q (.bl b) H := grow_fin q hle (.v (.bl b))
  unfold leD at hb
  split at hb
  · cases hb
    rw [hx.int] at rx; rw [hy.int] at ry
    exact op_le pins s σ H _ _ v u Q I rx ry ⟨_, _, rfl, rfl, fin⟩
  · cases hb
theorem od_gt : OpD X (compareOp .Gt) dGt := od_I op_gt fun F i j => .bl _
theorem od_ge : OpD X (compareOp .GtE) dGe := od_I op_ge fun F i j => .bl _
theorem isNone_eq {K : PySem.W.Frag} {F H : Hp} {v : V} {d : DL.D} (h : View K F H v d) : decide (v = .non) = isNone d := by
  rw [h.isNone]; cases d <;> rfl
theorem od_is : OpD X (compareOp .Is) dIs := by
  intro pins s σ H x y v u Q I rx ry ⟨F, d, e, hle, hx, hy, q⟩
  unfold dIs at q
  split at q
  · refine op_isN pins s σ H _ _ v u Q I rx ry ⟨hy.none, ?_⟩
    rw [isNone_eq hx]; exact grow_fin q hle (.v (.bl _))
  · exact q.elim
theorem od_isnot : OpD X (compareOp .IsNot) dIsNot := by
  intro pins s σ H x y v u Q I rx ry ⟨F, d, e, hle, hx, hy, q⟩
  unfold dIsNot at q
  split at q
  · refine op_notN pins s σ H _ _ v u Q I rx ry ⟨hy.none, ?_⟩
    rw [isNone_eq hx]; exact grow_fin q hle (.v (.bl _))
  · exact q.elim
theorem od_in (hu : X.A.units + 150 < cLine) : OpD X (compareOp .In) dIn := by
  intro pins s σ H x y v u Q I rx ry ⟨F, d, e, hle, hx, hy, q⟩
  obtain ⟨b, hb, q⟩ := ofB_wp q
  have fin : Q (.bl b) H := grow_fin q hle (.v (.bl b))
  unfold inD at hb
  split at hb
  · split at hb
    · rename_i hc
      cases hb
      simp only [Bool.and_eq_true, decide_eq_true_eq] at hc
      obtain ⟨as, r1⟩ := hx.reads I hle rx
      obtain ⟨bs, r2⟩ := hy.reads I hle ry
      exact SeqAt.in_list_reads r2 r1 hc.1.1 hc.1.2 (by omega) ⟨.bl _, H, I, rfl, fin⟩
    · cases hb
  · split at hb
    · rename_i hc
      cases hb
      simp only [Bool.and_eq_true, decide_eq_true_eq] at hc
      obtain ⟨as, r1⟩ := hx.reads I hle rx
      obtain ⟨bs, r2⟩ := hy.reads I hle ry
      exact SeqAt.in_tuple_reads r2 r1 hc.1.1 hc.1.2 (by omega) ⟨.bl _, H, I, rfl, fin⟩
    · cases hb
  · split at hb
    · cases hb
      rw [hx.str] at rx; rw [hy.str] at ry
      exact op_in_str pins s σ H _ _ v u Q I rx ry ⟨_, _, rfl, rfl, fin⟩
    · cases hb
  · split at hb
    · rename_i k hk
      cases hb
      obtain ⟨a, o, ea, g, e1, _⟩ := hy.dget hle hx hk
      subst ea
      obtain rfl : u = Value.ref a := ry
      rw [← e1] at fin
      exact d_in (by omega) I g rx fun s3 I3 => ⟨.bl _, H, I3, rfl, fin⟩
    · cases hb
  · cases hb
theorem od_notin (hu : X.A.units + 150 < cLine) : OpD X (compareOp .NotIn) dNotIn := by
  intro pins s σ H x y v u Q I rx ry ⟨F, d, e, hle, hx, hy, q⟩
  obtain ⟨b, hb, q⟩ := ofB_wp q
  obtain ⟨b', hb', rfl⟩ := Option.map_eq_some_iff.mp hb
  clear hb
  have hb := hb'
  clear hb'
  have fin : Q (.bl (!b')) H := grow_fin q hle (.v (.bl _))
  unfold inD at hb
  split at hb
  · split at hb
    · rename_i hc
      cases hb
      simp only [Bool.and_eq_true, decide_eq_true_eq] at hc
      obtain ⟨as, r1⟩ := hx.reads I hle rx
      obtain ⟨bs, r2⟩ := hy.reads I hle ry
      exact SeqAt.notIn_list_reads r2 r1 hc.1.1 hc.1.2 (by omega) ⟨.bl _, H, I, rfl, fin⟩
    · cases hb
  · split at hb
    · rename_i hc
      cases hb
      simp only [Bool.and_eq_true, decide_eq_true_eq] at hc
      obtain ⟨as, r1⟩ := hx.reads I hle rx
      obtain ⟨bs, r2⟩ := hy.reads I hle ry
      exact SeqAt.notIn_tuple_reads r2 r1 hc.1.1 hc.1.2 (by omega) ⟨.bl _, H, I, rfl, fin⟩
    · cases hb
  · split at hb
    · cases hb
      rw [hx.str] at rx; rw [hy.str] at ry
      exact L2.op_notin_str pins s σ H _ _ v u Q I rx ry ⟨_, _, rfl, rfl, fin⟩
    · cases hb
  · split at hb
    · rename_i k hk
      cases hb
      obtain ⟨a, o, ea, g, e1, _⟩ := hy.dget hle hx hk
      subst ea
      obtain rfl : u = Value.ref a := ry
      rw [← e1] at fin
      exact d_notIn (by omega) I g rx fun s3 I3 => ⟨.bl _, H, I3, rfl, fin⟩
    · cases hb
  · cases hb
end
end DL

namespace DL
open PySem PySem.Spec PyProof.Rows L2
variable [ShObj]

/-! ### items, slices -/
def dIx (d e : DL.D) : T R := match d, e with
  | .list ds, .int i => (match atI ds i with | some x => .ret (.v x) | none => .stop)
  | .tuple ds, .int i => (match atI ds i with | some x => .ret (.v x) | none => .stop)
  | .str z, .int i => chk z.length (match atI z.cps.toList i with | some c => .ret (.v (.str ⟨#[c]⟩)) | none => .stop)
  | .dict kvs, e => (match keyOf e with | some k => (match lookD kvs k with | some x => .ret (.v x) | none => .stop) | none => .stop)
  | _, _ => .stop
def cutD (ds : List DL.D) (lo hi : Option Int) : List DL.D := (ds.drop (HT.sIx ds.length 0 lo)).take (HT.sIx ds.length ds.length hi - HT.sIx ds.length 0 lo)
def dSl (d : DL.D) (lo hi : Option Int) : T R := match d with
  | .list ds => .ret (.o (.lst (cutD ds lo hi)))
  | .tuple ds => .ret (.v (.tuple (cutD ds lo hi)))
  | .str z => chk z.length (.ret (.v (.str (cutS z lo hi))))
  | _ => .stop
abbrev MO := Env → T (Option Int × List Nat)
def oNone : MO := fun _ => .ret (none, [])
def oSome (m : M) : MO := fun σ => (m σ).bind fun p => match p.1 with
  | .v (.int i) => .ret (some i, p.2)
  | _ => .stop
def mSl (m : M) (lo hi : MO) : M := fun σ => (m σ).bind fun p => (lo (frz σ p.2)).bind fun q => (hi (frz σ (p.2 ++ q.2))).bind fun t =>
  (look (frz σ ((p.2 ++ q.2) ++ t.2)) p.1).bind fun d => (dSl d q.1 t.1).bind fun r => .ret (r, (p.2 ++ q.2) ++ t.2)
def LO (K : PySem.W.Frag) (m : MO) : TO := fun σV H Q => ∃ F σ, Hd K F H σV σ ∧ (m σ).wp fun p => ∀ F' H', Hd K F' H' σV (frz σ p.2) → G F σ σV H F' (frz σ p.2) σV H' → Q p.1 H'
structure DO (m : MO) (X : Cx) (e : Option Expr) : Prop where po : PO X e (LO X.K m)
def LSl (K : PySem.W.Frag) : V → Option Int → Option Int → Hp → VK → Prop := fun x lo hi H Q => ∃ F d, Same F H ∧ View K F H x d ∧ (dSl d lo hi).wp fun r => ∀ v F' H', Grow F H F' H' → R0 K F' H' H v r → Q v H'
section
variable {X : Cx} {K : PySem.W.Frag} {F H : Hp}
theorem atI_reps {xs : List V} {ds : List DL.D} {i : Int} {d : DL.D} (r : Reps K F xs ds) (h : atI ds i = some d) : ∃ v, atI xs i = some v ∧ Rep K F v d := by
  unfold atI at h ⊢
  rw [r.len]
  cases e : ixN ds.length i with
  | none => rw [e] at h; cases h
  | some j =>
    rw [e] at h
    exact r.getD h
theorem ix_dict (hu : X.A.units + 1 < cLine) : IxR X (fun x y H Q => ∃ a w, x = .ref a ∧ DGet H a y (some w) ∧ Q w H) := by
  intro value slice pins s σ H x y v u Q I rx ry ⟨a, w, ex, g, q⟩ hs
  subst ex
  obtain rfl : v = Value.ref a := rx
  have hT := dict_typeIs I g
  unfold subscriptTail
  refine wpAny_bind ?_
  rw [getitemInPython_of_ne hT.not_modules]
  refine wpAny_bind (wpAny_specialOf hT PySem.F.slot_dict_getitem.lookup ?_)
  have fin : wpAny (model X.prog X.w) X.A (subscripted slice false (.ref a) u) (fun r s₃ => wpAny (model X.prog X.w) X.A (letTemporaryGo value (.ref a) r >>= fun _ => pure r) (EP X pins σ Q) X.xe s₃) X.xe s := by
    rw [hs]
    exact wpAny_operating (d_getItem hu I g ry fun w' s3 I3 rw' => wpAny_bind (wpAny_letTemporaryGo (wpAny_pure ⟨w, H, I3, rw', q⟩)))
  first
    | exact wpAny_pure (wpAny_bind fin)
    | exact wpAny_bind (wpAny_pure (wpAny_bind fin))
    | exact wpAny_bind fin
theorem ix_ok (hu : X.A.units + 150 < cLine) : IxR X (LR2 X.K dIx) := by
  intro value slice pins s σ H x y v u Q I rx ry ⟨F, d, e, hle, hx, hy, q⟩ hsub
  unfold dIx at q
  split at q
  · split at q
    · rename_i ha
      obtain ⟨a, xs, rfl, h1, r1⟩ := hx.list hle
      obtain ⟨w, hw, rw'⟩ := atI_reps r1 ha
      exact ix_seq value slice pins s σ H _ y v u Q I rx ry (.inl ⟨a, xs, _, w, rfl, hy.int, .inl (.inl h1), hw, grow_fin q hle (.v rw')⟩) hsub
    · exact q.elim
  · split at q
    · rename_i ha
      obtain ⟨a, xs, rfl, h1, _, r1⟩ := hx.tup hle
      obtain ⟨w, hw, rw'⟩ := atI_reps r1 ha
      exact ix_seq value slice pins s σ H _ y v u Q I rx ry (.inr (.inl ⟨a, xs, _, w, rfl, hy.int, h1, hw, grow_fin q hle (.v rw')⟩)) hsub
    · exact q.elim
  · obtain ⟨hz, q⟩ := chk_wp q
    split at q
    · rename_i ha
      exact ix_seq value slice pins s σ H x y v u Q I rx ry (.inr (.inr ⟨_, _, _, hx.str, hy.int, hz, ha, grow_fin q hle (.v (.str _))⟩)) hsub
    · exact q.elim
  · split at q
    · rename_i k hk
      split at q
      · rename_i z hz
        obtain ⟨a, o, ea, g, _, e2⟩ := hx.dget hle hy hk
        obtain ⟨w, eo, rw'⟩ := e2 _ hz
        subst eo
        exact ix_dict (by omega) value slice pins s σ H x y v u Q I rx ry ⟨a, w, ea, g, grow_fin q hle (.v rw')⟩ hsub
      · exact q.elim
    · exact q.elim
  · exact q.elim
theorem reps_cut {xs : List V} {ds : List DL.D} {lo hi : Option Int} (r : Reps K F xs ds) : Reps K F (cutV xs lo hi) (cutD ds lo hi) := by
  unfold cutV cutD
  rw [r.len]
  exact (r.drop _).take _
theorem cutD_all {ds : List DL.D} {lo hi : Option Int} (h : HT.sIx ds.length 0 lo = 0 ∧ HT.sIx ds.length ds.length hi = ds.length) : cutD ds lo hi = ds := by
  unfold cutD
  rw [h.1, h.2, List.drop_zero, Nat.sub_zero, List.take_length]
theorem sl_ok : SlR X (LSl X.K) := by
  intro pins s σ H x v vl vu lo hi sl Q I rx hs pl pu ⟨F, d, hle, hx, q⟩
  unfold dSl at q
  split at q
  · obtain ⟨a, xs, rfl, h1, r1⟩ := hx.list hle
    exact sl_list pins s σ H _ v vl vu lo hi sl Q I rx hs pl pu ⟨a, xs, rfl, .inl (.inl h1), fun p hp => q _ _ _ (.newO hle hp) (.o (by intro z; cases z) (hle.free hp) hp ⟨_, upd_same, reps_cut r1⟩)⟩
  · obtain ⟨a, xs, rfl, h1, h1', r1⟩ := hx.tup hle
    refine sl_tupA pins s σ H _ v vl vu lo hi sl Q I rx hs pl pu ⟨a, xs, rfl, h1, fun hw => ?_, fun _ p hp => ?_⟩
    · rw [r1.len] at hw
      rw [cutD_all hw] at q
      exact grow_fin q hle (.v (.tup h1' r1))
    · have gr : Grow F H (upd F p (.tup (cutV xs lo hi))) (upd H p (.tup (cutV xs lo hi))) := .new hle hp
      exact q _ _ _ gr (.v (.tup (.inl (.inl upd_same)) ((reps_cut r1).mono gr.ff)))
  · obtain ⟨hz, q⟩ := chk_wp q
    refine sl_str pins s σ H _ v vl vu lo hi sl Q I rx hs pl pu ⟨_, hx.str, hz, grow_fin q hle (.v (.str _))⟩
  · exact q.elim
theorem oNone_lo {σV : L2.St} {Q : Option Int → Hp → Prop} (h : LO K oNone σV H Q) : tNoPart σV H Q := by
  obtain ⟨F, σ, s, h⟩ := h
  exact h F H s G.refl
theorem oSome_lo {σV : L2.St} {m : M} {Q : Option Int → Hp → Prop} (h : LO K (oSome m) σV H Q) : tPart (LE K m) σV H Q := by
  obtain ⟨F, σ, s, h⟩ := h
  unfold oSome at h
  rw [T.wp_bind] at h
  refine LE.then s (T.wp_mono h fun p h x F1 H1 s1 g1 r1 => ?_)
  obtain ⟨r, k⟩ := p
  have h : (match r with | .v (.int i) => T.ret (some i, k) | _ => T.stop).wp _ := h
  split at h
  · cases r1 with
    | v hr => cases hr; exact ⟨_, rfl, h F1 H1 s1 g1⟩
  · exact h.elim
theorem mSl_le {σV : L2.St} {m : M} {lo hi : MO} {Q : VK} (h : LE K (mSl m lo hi) σV H Q) : tSl (LSl K) (LE K m) (LO K lo) (LO K hi) σV H Q := by
  obtain ⟨F, σ, s, h⟩ := h
  unfold mSl at h
  rw [T.wp_bind] at h
  refine LE.then s (T.wp_mono h fun p h x F1 H1 s1 g1 r1 => ?_)
  rw [T.wp_bind] at h
  refine ⟨F1, _, s1, T.wp_mono h fun q h F2 H2 s2 g2 => ?_⟩
  rw [T.wp_bind] at h
  rw [← frz_append] at s2 g2
  refine ⟨F2, _, s2, T.wp_mono h fun t h F3 H3 s3 g3 => ?_⟩
  rw [T.wp_bind] at h
  rw [← frz_append] at s3 g3
  obtain ⟨d, _, vw, h⟩ := look_view (((r1.w s (H0 := H) fun _ o e => ⟨o, e⟩).next g2).next g3) s3 h
  rw [T.wp_bind] at h
  exact ⟨F3, d, s3.le, vw, T.wp_mono h fun r h v F' H' gr h0 => fin0 s3 ((g1.trans g2).trans g3) gr h0 h⟩
end

/-! ### what a value is an instance of -/
def tyName : DL.D → String
  | .none => "NoneType"
  | .bool _ => "bool"
  | .int _ => "int"
  | .str _ => "str"
  | .list _ => "list"
  | .tuple _ => "tuple"
  | .dict _ => "dict"
def isiD (T : String) (d : DL.D) : Bool := tyName d == T || (tyName d == "bool" && T == "int")
def mIsi (T : String) (m : M) : M := fun σ => (m σ).bind fun p => (look (frz σ p.2) p.1).bind fun d => .ret (.v (.bool (isiD T d)), p.2)
section
variable {X : Cx} {K : PySem.W.Frag} {F H : Hp}
theorem tyX_of {v : V} {d : DL.D} (h : View K F H v d) (e : Same F H) : TyX K H v (.type (tyName d)) := by
  cases d with
  | none => rw [h.none]; exact .base .non
  | bool b => rw [h.bool]; exact .base (.bl b)
  | int i => rw [h.int]; exact .base (.int i)
  | str x => rw [h.str]; exact .base (.str x)
  | list ds => obtain ⟨a, xs, rfl, h1, _⟩ := h.list e; exact .base (.lst h1)
  | tuple ds =>
    obtain ⟨a, xs, rfl, h1, _, _⟩ := h.tup e
    rcases h1 with (h1 | ⟨o, h1⟩) | ⟨o, its, n, hk, hc, _⟩
    · exact .base (.tup h1)
    · exact .fTuple h1
    · exact .kTuple hk hc
  | dict kvs => obtain ⟨a, xs, rfl, h1, _⟩ := h.dict e; exact .base (.dK h1)
theorem kit_all : (["NoneType", "bool", "int", "str", "list", "tuple", "dict"].all fun n => ["int", "bool", "str", "tuple", "list", "dict"].all fun T => decide (kitB n T = some (n == T || (n == "bool" && T == "int")))) = true := by decide +kernel
theorem kit_ok {T : String} (hT : T ∈ ["int", "bool", "str", "tuple", "list", "dict"]) (d : DL.D) : PySem.W.kitOne K (.type (tyName d)) (.type T) = some (isiD T d) := by
  have hn : tyName d ∈ ["NoneType", "bool", "int", "str", "list", "tuple", "dict"] := by
    cases d <;> simp [tyName]
  exact kit_ty (of_decide_eq_true (List.all_eq_true.mp (List.all_eq_true.mp kit_all _ hn) _ hT))
theorem mIsi_le {ty : String} {σV : L2.St} {m : M} {Q : VK} (hT : ty ∈ ["int", "bool", "str", "tuple", "list", "dict"]) (h : LE K (mIsi ty m) σV H Q) :
    tCB (rIsi K) (tCons (LE K m) (tCons (tC (.ty ty)) tNil)) σV H Q := by
  obtain ⟨F, σ, s, h⟩ := h
  unfold mIsi at h
  rw [T.wp_bind] at h
  refine LE.then s (T.wp_mono h fun p h x F1 H1 s1 g1 r1 => ?_)
  rw [T.wp_bind] at h
  obtain ⟨d, _, vw, h⟩ := look_view (r1.w s (H0 := H) fun _ o e => ⟨o, e⟩) s1 h
  exact ⟨x, .ty ty, _, _, _, rfl, .ty ty, tyX_of vw s1.le, kit_ok hT d, h _ F1 H1 s1 g1 (.v (.bl _))⟩
end
end DL

namespace DL
open PySem PySem.Spec PyProof.Rows L2
variable [ShObj]

/-! ### one's own list or dict changed -/
section
variable {K : PySem.W.Frag} {F F' F0 F1 F2 H H' H0 H1 H2 : Hp} {σ σ' σ0 σ1 σ2 : Env} {σV σV' σV0 σV1 σV2 : L2.St} {m ma mb : M} {v : V} {r : R} {d : DL.D} {i : Nat} {a : Addr} {x x' : O} {En : Ends}
theorem Hd.mod (s : Hd K F H σV σ) (hi : σ[i]? = some (.o x)) (hx : x ≠ .pool) (hV : σV[i]? = some (some (.ref a))) (o : HO) (hx' : x' ≠ .pool) (ho : Own K F (L2.upd H a o) a x') :
    Hd K F (L2.upd H a o) σV (σ.set i (.o x')) ∧ G F σ σV H F (σ.set i (.o x')) σV (L2.upd H a o) := by
  have hlt : i < σ.length := (List.getElem?_eq_some_iff.mp hi).1
  obtain ⟨b, e1, e2, e3⟩ := s.own i x hi
  rw [hV] at e1; cases e1
  have other : ∀ {j : Nat} {y : O} {b : Addr}, j ≠ i → σ[j]? = some (.o y) → σV[j]? = some (some (.ref b)) → b ≠ a := fun {j y b} hj e q z => s.dis j i y x hj e hi (by rw [q, hV, z])
  refine ⟨⟨fun b u e => ?_, by rw [List.length_set]; exact s.len, fun j d e => ?_, fun j y e => ?_, fun j k y z hjk q1 q2 => ?_⟩, ⟨Same.refl _, fun _ _ _ _ => rfl, fun b u e n => ?_, fun j y b e q => ?_, fun j e => ?_, upd_th fun _ u e => ⟨u, e⟩⟩⟩
  · rw [upd_ne (ne_of_none e e2)]; exact s.le _ _ e
  · rw [set_get hlt] at e
    by_cases hj : j = i
    · rw [if_pos hj] at e; cases e
    · rw [if_neg hj] at e; exact s.val j d e
  · rw [set_get hlt] at e
    by_cases hj : j = i
    · rw [if_pos hj] at e; cases e; subst hj; exact ⟨a, hV, e2, ho⟩
    · rw [if_neg hj] at e
      obtain ⟨b, q1, q2, q3⟩ := s.own j y e
      exact ⟨b, q1, q2, q3.mono (Same.refl _) fun o' e' => by rw [upd_ne (other hj e q1)]; exact e'⟩
  · have back : ∀ {j : Nat} {y : O}, (σ.set i (.o x'))[j]? = some (.o y) → ∃ w, σ[j]? = some (.o w) := fun {j y} q => by
      rw [set_get hlt] at q
      by_cases hj : j = i
      · subst hj; exact ⟨x, hi⟩
      · rw [if_neg hj] at q; exact ⟨y, q⟩
    obtain ⟨w1, p1⟩ := back q1
    obtain ⟨w2, p2⟩ := back q2
    exact s.dis j k w1 w2 hjk p1 p2
  · rw [upd_ne fun z => n i x hi (by rw [hV, z])]; exact e
  · rw [set_get hlt] at e
    by_cases hj : j = i
    · subst hj; exact .inr (own_no hi q)
    · rw [if_neg hj] at e; exact .inr (own_no e q)
  · have hj : j ≠ i := fun z => by subst z; rw [hi] at e; exact hx (by injection e with e; injection e)
    rw [set_get hlt, if_neg hj]
    exact ⟨e, rfl, fun b p hb q => q.mono (Same.refl _) fun o' e' => by rw [upd_ne (other hj e hb)]; exact e'⟩
def ownL (σ : Env) (i : Nat) : T (List DL.D) := match σ[i]? with
  | some (.o (.lst ds)) => .ret ds
  | _ => .stop
theorem ownL_wp {Q : List DL.D → Prop} (h : (ownL σ i).wp Q) : ∃ ds, σ[i]? = some (.o (.lst ds)) ∧ Q ds := by
  unfold ownL at h
  split at h
  · exact ⟨_, by assumption, h⟩
  · exact h.elim
/-- x.append(e) -/
def sApp (i : Nat) (m : M) : MS := fun σ => (ownL σ i).bind fun _ => (m σ).bind fun p => (look (frz σ p.2) p.1).bind fun d => (ownL (frz (frz σ p.2) (slotsOf p.1)) i).bind fun ds =>
  chk (ds.length + 1) (.ret (.nx, (frz (frz σ p.2) (slotsOf p.1)).set i (.o (.lst (ds ++ [d])))))
theorem sApp_ls (h : LS K (sApp i m) En σV H) : tDrop (tBM K "list" rAppend (tVar i) (tCons (LE K m) tNil)) En σV H := by
  obtain ⟨F, σ, s, h⟩ := h
  unfold sApp at h
  rw [T.wp_bind] at h
  obtain ⟨ds0, hi, h⟩ := ownL_wp h
  obtain ⟨a, hV, hF, vs0, ha, _⟩ := s.own i _ hi
  refine ⟨.ref a, hV, .inl ⟨rfl, vs0, .inl (.inl ha)⟩, ?_⟩
  rw [T.wp_bind] at h
  refine LE.then s (T.wp_mono h fun p h x F1 H1 s1 g1 r1 => ?_)
  rw [T.wp_bind] at h
  have rw1 := r1.w s (H0 := H) (k := p.2) fun _ o e => ⟨o, e⟩
  obtain ⟨d, el, _, h⟩ := look_view rw1 s1 h
  obtain ⟨F2, w2, s2, r2⟩ := esc_rep rw1 s1 el
  have g2 := g1.wid (l := slotsOf p.1) w2
  rw [T.wp_bind] at h
  obtain ⟨ds, hi2, h⟩ := ownL_wp h
  obtain ⟨hz, h⟩ := chk_wp h
  obtain ⟨b, q1, q2, vs, hb, rb⟩ := s2.own i _ hi2
  rw [hV] at q1; cases q1
  obtain ⟨s3, g3⟩ := s2.mod hi2 (by intro z; cases z) hV (.lst (vs ++ [x])) (x' := .lst (ds ++ [d])) (by intro z; cases z) ⟨_, upd_same, rb.append (.cons r2 .nil)⟩
  exact ⟨a, vs, x, rfl, rfl, hb, by rw [rb.len]; omega, h σV F2 _ s3 (g2.trans g3)⟩
/-- x[k] = e, a list -/
def sPut (i : Nat) (mk m : M) : MS := fun σ => (m σ).bind fun p => (look (frz σ p.2) p.1).bind fun d => (ownL (frz (frz σ p.2) (slotsOf p.1)) i).bind fun _ => (mk (frz (frz σ p.2) (slotsOf p.1))).bind fun q =>
  (look (frz (frz (frz σ p.2) (slotsOf p.1)) q.2) q.1).bind fun k => match k with
  | .int k => (ownL (frz (frz (frz σ p.2) (slotsOf p.1)) q.2) i).bind fun ds => (match ixN ds.length k with
    | some j => .ret (.nx, (frz (frz (frz σ p.2) (slotsOf p.1)) q.2).set i (.o (.lst (ds.set j d))))
    | none => .stop)
  | _ => .stop
theorem sPut_ls {mk : M} (h : LS K (sPut i mk m) En σV H) : tAsg (LE K m) (gSub (tVar i) (LE K mk) rSetL) En σV H := by
  obtain ⟨F, σ, s, h⟩ := h
  unfold sPut at h
  rw [T.wp_bind] at h
  refine LE.then s (T.wp_mono h fun p h x F1 H1 s1 g1 r1 => ?_)
  rw [T.wp_bind] at h
  have rw1 := r1.w s (H0 := H) (k := p.2) fun _ o e => ⟨o, e⟩
  obtain ⟨d, el, _, h⟩ := look_view rw1 s1 h
  obtain ⟨F2, w2, s2, r2⟩ := esc_rep rw1 s1 el
  have g2 := g1.wid (l := slotsOf p.1) w2
  rw [T.wp_bind] at h
  obtain ⟨ds0, hi, h⟩ := ownL_wp h
  obtain ⟨a, hV, hF, vs0, ha, _⟩ := s2.own i _ hi
  refine ⟨.ref a, hV, ?_⟩
  rw [T.wp_bind] at h
  refine LE.then s2 (T.wp_mono h fun q h y F3 H3 s3 g3 r3 => ?_)
  rw [T.wp_bind] at h
  obtain ⟨k, _, vw, h⟩ := look_view (r3.w s2 (H0 := H1) fun _ o e => ⟨o, e⟩) s3 h
  split at h
  · rename_i k
    rw [T.wp_bind] at h
    obtain ⟨ds, hi2, h⟩ := ownL_wp h
    obtain ⟨b, q1, q2, vs, hb, rb⟩ := s3.own i _ hi2
    rw [hV] at q1; cases q1
    split at h
    · rename_i j hj
      obtain ⟨s4, g4⟩ := s3.mod hi2 (by intro z; cases z) hV (.lst (vs.set j x)) (x' := .lst (ds.set j d)) (by intro z; cases z) ⟨_, upd_same, rb.set j (r2.mono g3.ff)⟩
      exact ⟨a, vs, _, j, rfl, vw.int, hb, by rw [rb.len]; exact hj, h σV F3 _ s4 ((g2.trans g3).trans g4)⟩
    · exact h.elim
  · exact h.elim
/-- x op= e, plain values -/
def sAug (i : Nat) (f : DL.D → DL.D → T R) (m : M) : MS := fun σ => (match σ[i]? with | some (.v d) => T.ret d | _ => .stop).bind fun d0 => (m σ).bind fun p => (look (frz σ p.2) p.1).bind fun d => (f d0 d).bind fun r => stor i (frz σ p.2) r
def intOp (f : Int → Int → Int) : DL.D → DL.D → T R := dI fun i j => .int (f i j)
theorem intOp_wp {f : Int → Int → Int} {d e : DL.D} {Q : R → Prop} (h : (intOp f d e).wp Q) : ∃ a b, d = .int a ∧ e = .int b ∧ Q (.v (.int (f a b))) := by
  cases d <;> cases e <;> first | exact h.elim | exact ⟨_, _, rfl, rfl, h⟩
theorem sAug_ls {f : Int → Int → Int} (h : LS K (sAug i (intOp f) m) En σV H) : tAug i (LE K m) (ipI f) En σV H := by
  obtain ⟨F, σ, s, h⟩ := h
  unfold sAug at h
  rw [T.wp_bind] at h
  split at h
  · rename_i d0 e0
    obtain ⟨v0, hV, r0⟩ := s.val i d0 e0
    refine ⟨v0, hV, ?_⟩
    have h : ((m σ).bind fun p => (look (frz σ p.2) p.1).bind fun d => (intOp f d0 d).bind fun r => stor i (frz σ p.2) r).wp (Post K F σ σV H En) := h
    rw [T.wp_bind] at h
    refine LE.then s (T.wp_mono h fun p h y F1 H1 s1 g1 r1 => ?_)
    rw [T.wp_bind] at h
    obtain ⟨d, _, vw, h⟩ := look_view (r1.w s (H0 := H) fun _ o e => ⟨o, e⟩) s1 h
    rw [T.wp_bind] at h
    obtain ⟨a, b, rfl, rfl, h⟩ := intOp_wp h
    · cases r0
      refine ⟨a, b, rfl, vw.int, ?_⟩
      have h : (stor i (frz σ p.2) (.v (.int (f a b)))).wp (Post K F σ σV H En) := h
      unfold stor at h
      have hi : i < (frz σ p.2).length := by rw [frz_len]; exact (List.getElem?_eq_some_iff.mp e0).1
      have np : (frz σ p.2)[i]? ≠ some (.o .pool) := fun z => by
        have := frz_own z
        rw [e0] at this; cases this
      cases e : (frz σ p.2)[i]? with
      | none => rw [e] at h; exact h.elim
      | some sl =>
        have h : (T.ret (Fl.nx, (frz σ p.2).set i (Sl.v (.int (f a b))))).wp (Post K F σ σV H En) := by
          rw [e] at h np
          cases sl with
          | u => exact h
          | v _ => exact h
          | o y => cases y with
            | pool => exact absurd rfl np
            | lst _ => exact h
            | dic _ => exact h
            | rng _ _ => exact h
            | bor _ _ => exact h
        exact h _ F1 H1 (s1.setV hi (.int _)) (g1.trans (G.setV hi s1.len np))
  · exact h.elim
end

/-! ### built-in functions -/
def bLen (ds : List DL.D) : T R := match ds with
  | [.list xs] => .ret (.v (.int xs.length))
  | [.tuple xs] => .ret (.v (.int xs.length))
  | [.str z] => chk z.length (.ret (.v (.int z.length)))
  | [.dict kvs] => .ret (.v (.int kvs.length))
  | _ => .stop
def bInt (ds : List DL.D) : T R := match ds with
  | [.int i] => .ret (.v (.int i))
  | [.bool b] => .ret (.v (.int (if b then 1 else 0)))
  | _ => .stop
def bList (ds : List DL.D) : T R := match ds with
  | [.list xs] => .ret (.o (.lst xs))
  | [.tuple xs] => .ret (.o (.lst xs))
  | [.dict kvs] => .ret (.o (.lst (kvs.map (·.1))))
  | _ => .stop
def bTuple (ds : List DL.D) : T R := match ds with
  | [.list xs] => .ret (.v (.tuple xs))
  | [.tuple xs] => .ret (.v (.tuple xs))
  | _ => .stop
def bAbs (ds : List DL.D) : T R := match ds with
  | [.int i] => .ret (.v (.int (if i < 0 then -i else i)))
  | _ => .stop
def bMax (ds : List DL.D) : T R := match ds with
  | [.int i, .int j] => .ret (.v (.int (if j > i then j else i)))
  | _ => .stop
def bMin (ds : List DL.D) : T R := match ds with
  | [.int i, .int j] => .ret (.v (.int (if j < i then j else i)))
  | _ => .stop
def boolsD : List DL.D → Option (List Bool)
  | [] => some []
  | .bool b :: r => (boolsD r).map (b :: ·)
  | _ => none
def bAny (ds : List DL.D) : T R := match ds with
  | [.list xs] => ofB ((boolsD xs).map fun l => l.any id)
  | _ => .stop
def bAll (ds : List DL.D) : T R := match ds with
  | [.list xs] => ofB ((boolsD xs).map fun l => l.all id)
  | _ => .stop
def bSum (ds : List DL.D) : T R := match ds with
  | [.list xs] => (match intsD xs with | some ns => .ret (.v (.int ns.sum)) | none => .stop)
  | _ => .stop
/-- what repr may be asked of -/
def flatKv : List (DL.D × DL.D) → Bool
  | [] => true
  | (_, .int _) :: r => flatKv r
  | _ => false
def reprOk (d : DL.D) : Bool := d.showable && decide (d.shown.length ≤ 100000) && decide (d.depth ≤ 150) && (match d with | .dict kvs => flatKv kvs | d => !d.hasDict)
def bRepr (ds : List DL.D) : T R := match ds with
  | [d] => if reprOk d = true then .ret (.v (.str d.shown)) else .stop
  | _ => .stop
section
variable {X : Cx}
theorem Views.one {K : PySem.W.Frag} {F H : Hp} {xs : List V} {d : DL.D} (h : Views K F H xs [d]) : ∃ x, xs = [x] ∧ View K F H x d := by
  cases h with
  | cons h r => cases r; exact ⟨_, rfl, h⟩
theorem Views.two {K : PySem.W.Frag} {F H : Hp} {xs : List V} {d e : DL.D} (h : Views K F H xs [d, e]) : ∃ x y, xs = [x, y] ∧ View K F H x d ∧ View K F H y e := by
  cases h with
  | cons h r =>
    cases r with
    | cons h2 r => cases r; exact ⟨_, _, rfl, h, h2⟩
theorem RepK.len0 {K : PySem.W.Frag} {F : Hp} {vs : List (Key × V)} {ds : List (DL.D × DL.D)} (r : RepK K F vs ds) : vs.length = ds.length := by
  induction vs generalizing ds with
  | nil => cases r; rfl
  | cons p vs ih => cases r with | cons h r => exact congrArg (· + 1) (ih r)
theorem cd_len : CallD X (.builtin "len") bLen := by
  intro pins s σ H xs us Q I r ⟨F, ds, hle, hv, q⟩
  unfold bLen at q
  split at q
  · obtain ⟨x, rfl, vw⟩ := hv.one
    obtain ⟨a, ys, rfl, h1, r1⟩ := vw.list hle
    refine call_len_seq pins s σ H _ us Q I r ⟨a, ys, rfl, .inl (.inl (.inl h1)), ?_⟩
    rw [r1.len]; exact grow_fin q hle (.v (.int _))
  · obtain ⟨x, rfl, vw⟩ := hv.one
    obtain ⟨a, ys, rfl, h1, _, r1⟩ := vw.tup hle
    refine call_len_seq pins s σ H _ us Q I r ⟨a, ys, rfl, .inr h1, ?_⟩
    rw [r1.len]; exact grow_fin q hle (.v (.int _))
  · obtain ⟨x, rfl, vw⟩ := hv.one
    obtain ⟨hz, q⟩ := chk_wp q
    rw [vw.str] at r
    exact call_len_str pins s σ H _ us Q I r ⟨_, rfl, hz, grow_fin q hle (.v (.int _))⟩
  · obtain ⟨x, rfl, vw⟩ := hv.one
    obtain ⟨a, ys, rfl, h1, r1⟩ := vw.dict hle
    rw [Vals.ref1 r]
    have fin : Q (.int (ys.length : Nat)) H := by
      rw [RepK.len0 r1]; exact grow_fin q hle (.v (.int _))
    exact d_len I (.inl h1) fun t s' I' => ⟨.int _, H, I', ⟨t, rfl⟩, fin⟩
  · exact q.elim
theorem cd_int : CallD X (.type "int") bInt := by
  intro pins s σ H xs us Q I r ⟨F, ds, hle, hv, q⟩
  unfold bInt at q
  split at q
  · obtain ⟨x, rfl, vw⟩ := hv.one
    rw [vw.int] at r
    exact call_int1 pins s σ H _ us Q I r (.inl ⟨_, rfl, grow_fin q hle (.v (.int _))⟩)
  · obtain ⟨x, rfl, vw⟩ := hv.one
    rw [vw.bool] at r
    exact call_int1 pins s σ H _ us Q I r (.inr ⟨_, rfl, grow_fin q hle (.v (.int _))⟩)
  · exact q.elim
theorem RepK.keys {K : PySem.W.Frag} {F : Hp} {vs : List (Key × V)} {ds : List (DL.D × DL.D)} (r : RepK K F vs ds) : Reps K F (vs.map fun kv => kV kv.1) (ds.map (·.1)) := by
  induction vs generalizing ds with
  | nil => cases r; exact .nil
  | cons p vs ih =>
    cases r with
    | @cons k v _ d ds h r =>
      refine .cons ?_ (ih r)
      cases k with
      | inl i => exact .int i
      | inr x => exact .str x
theorem cd_list (hc : X.calm = true) : CallD X (.type "list") bList := by
  intro pins s σ H xs us Q I r ⟨F, ds, hle, hv, q⟩
  unfold bList at q
  split at q
  · obtain ⟨x, rfl, vw⟩ := hv.one
    obtain ⟨a, ys, rfl, h1, r1⟩ := vw.list hle
    exact call_list_of pins s σ H _ us Q I r ⟨a, ys, rfl, .inl (.inl (.inl h1)), fun p hp => q _ _ _ (.newO hle hp) (.o (by intro z; cases z) (hle.free hp) hp ⟨_, upd_same, r1⟩)⟩
  · obtain ⟨x, rfl, vw⟩ := hv.one
    obtain ⟨a, ys, rfl, h1, _, r1⟩ := vw.tup hle
    exact call_list_of pins s σ H _ us Q I r ⟨a, ys, rfl, .inr h1, fun p hp => q _ _ _ (.newO hle hp) (.o (by intro z; cases z) (hle.free hp) hp ⟨_, upd_same, r1⟩)⟩
  · obtain ⟨x, rfl, vw⟩ := hv.one
    obtain ⟨a, ys, rfl, h1, r1⟩ := vw.dict hle
    exact call_list_dK hc pins s σ H _ us Q I r ⟨a, ys, rfl, h1, fun p hp => q _ _ _ (.newO hle hp) (.o (by intro z; cases z) (hle.free hp) hp ⟨_, upd_same, r1.keys⟩)⟩
  · exact q.elim
theorem cd_tuple : CallD X (.type "tuple") bTuple := by
  intro pins s σ H xs us Q I r ⟨F, ds, hle, hv, q⟩
  unfold bTuple at q
  split at q
  · obtain ⟨x, rfl, vw⟩ := hv.one
    obtain ⟨a, ys, rfl, h1, r1⟩ := vw.list hle
    refine call_tuple_of pins s σ H _ us Q I r ⟨a, ys, rfl, .inl ⟨.inl (.inl h1), fun p hp => ?_⟩⟩
    have gr : Grow F H (upd F p (.tup ys)) (upd H p (.tup ys)) := .new hle hp
    exact q _ _ _ gr (.v (.tup (.inl (.inl upd_same)) (r1.mono gr.ff)))
  · obtain ⟨x, rfl, vw⟩ := hv.one
    obtain ⟨a, ys, rfl, h1, h1', r1⟩ := vw.tup hle
    exact call_tuple_of pins s σ H _ us Q I r ⟨a, ys, rfl, .inr ⟨h1, grow_fin q hle (.v (.tup h1' r1))⟩⟩
  · exact q.elim
theorem cd_abs : CallD X (.builtin "abs") bAbs := by
  intro pins s σ H xs us Q I r ⟨F, ds, hle, hv, q⟩
  unfold bAbs at q
  split at q
  · obtain ⟨x, rfl, vw⟩ := hv.one
    rw [vw.int] at r
    exact call_abs pins s σ H _ us Q I r ⟨_, rfl, grow_fin q hle (.v (.int _))⟩
  · exact q.elim
theorem cd_max2 (hc : X.calm = true) : CallD X (.builtin "max") bMax := by
  intro pins s σ H xs us Q I r ⟨F, ds, hle, hv, q⟩
  unfold bMax at q
  split at q
  · obtain ⟨x, y, rfl, vw, vw2⟩ := hv.two
    rw [vw.int, vw2.int] at r
    exact call_max2 hc pins s σ H _ us Q I r ⟨_, _, rfl, grow_fin q hle (.v (.int _))⟩
  · exact q.elim
theorem cd_min2 (hc : X.calm = true) : CallD X (.builtin "min") bMin := by
  intro pins s σ H xs us Q I r ⟨F, ds, hle, hv, q⟩
  unfold bMin at q
  split at q
  · obtain ⟨x, y, rfl, vw, vw2⟩ := hv.two
    rw [vw.int, vw2.int] at r
    exact call_min2 hc pins s σ H _ us Q I r ⟨_, _, rfl, grow_fin q hle (.v (.int _))⟩
  · exact q.elim
theorem boolsD_reps {K : PySem.W.Frag} {F : Hp} : ∀ {ds : List DL.D} {bs : List Bool} {xs : List V}, boolsD ds = some bs → Reps K F xs ds → xs = bs.map V.bl
  | [], _, _, h, r => by cases h; cases r; rfl
  | d :: ds, ns, xs, h, r => by
    cases r with
    | cons h1 h2 =>
      cases d with
      | bool i =>
        obtain ⟨ms, e, rfl⟩ := Option.map_eq_some_iff.mp (show (boolsD ds).map (i :: ·) = some ns from h)
        cases h1
        rw [boolsD_reps e h2]; rfl
      | none => cases h
      | int _ => cases h
      | str _ => cases h
      | list _ => cases h
      | tuple _ => cases h
      | dict _ => cases h
theorem cd_any (hc : X.calm = true) : CallD X (.builtin "any") bAny := by
  intro pins s σ H xs us Q I r ⟨F, ds, hle, hv, q⟩
  unfold bAny at q
  split at q
  · obtain ⟨x, rfl, vw⟩ := hv.one
    obtain ⟨b, hb, q⟩ := ofB_wp q
    obtain ⟨bs, hbs, rfl⟩ := Option.map_eq_some_iff.mp hb
    obtain ⟨a, ys, rfl, h1, r1⟩ := vw.list hle
    have e := boolsD_reps hbs r1
    subst e
    exact cr_any hc pins s σ H _ us Q I r ⟨a, bs, rfl, .inl (.inl h1), grow_fin q hle (.v (.bl _))⟩
  · exact q.elim
theorem cd_all (hc : X.calm = true) : CallD X (.builtin "all") bAll := by
  intro pins s σ H xs us Q I r ⟨F, ds, hle, hv, q⟩
  unfold bAll at q
  split at q
  · obtain ⟨x, rfl, vw⟩ := hv.one
    obtain ⟨b, hb, q⟩ := ofB_wp q
    obtain ⟨bs, hbs, rfl⟩ := Option.map_eq_some_iff.mp hb
    obtain ⟨a, ys, rfl, h1, r1⟩ := vw.list hle
    have e := boolsD_reps hbs r1
    subst e
    exact cr_all hc pins s σ H _ us Q I r ⟨a, bs, rfl, .inl (.inl h1), grow_fin q hle (.v (.bl _))⟩
  · exact q.elim
theorem cd_sum (hc : X.calm = true) : CallD X (.builtin "sum") bSum := by
  intro pins s σ H xs us Q I r ⟨F, ds, hle, hv, q⟩
  unfold bSum at q
  split at q
  · split at q
    · rename_i ns hns
      obtain ⟨x, rfl, vw⟩ := hv.one
      obtain ⟨a, ys, rfl, h1, r1⟩ := vw.list hle
      have e := ints_reps hns r1
      subst e
      exact cr_sum hc pins s σ H _ us Q I r ⟨a, ns, rfl, .inl (.inl h1), grow_fin q hle (.v (.int _))⟩
    · exact q.elim
  · exact q.elim
theorem flat_reads {h : Heap} : ∀ {kvs : List (DL.D × DL.D)} {us : List Value} {as : List Addr}, flatKv kvs = true → ReadsAll h us (kvs.map (·.2)) as → as = []
  | [], _, _, _, r => by cases r; rfl
  | (k, d) :: kvs, us, as, f, r => by
    cases r with
    | cons r1 r2 =>
      cases d with
      | int i =>
        cases r1
        have := flat_reads (show flatKv kvs = true from f) r2
        rw [this]; rfl
      | none => cases f
      | bool _ => cases f
      | str _ => cases f
      | list _ => cases f
      | tuple _ => cases f
      | dict _ => cases f
theorem cd_repr (hg : X.A.guards = some []) (hu : X.A.units + 200 < cLine) : CallD X (.builtin "repr") bRepr := by
  intro pins s σ H xs us Q I r ⟨F, ds, hle, hv, q⟩
  unfold bRepr at q
  split at q
  · rename_i d
    obtain ⟨x, rfl, vw⟩ := hv.one
    split at q
    · rename_i hc
      unfold reprOk at hc
      simp only [Bool.and_eq_true, decide_eq_true_eq] at hc
      obtain ⟨⟨⟨h1, h2⟩, h3⟩, h4⟩ := hc
      have hz : d.shown.length ≤ sizeLine := Nat.le_trans h2 (by decide)
      have fin : Q (.str d.shown) H := grow_fin q hle (.v (.str _))
      obtain ⟨u, rfl, ru⟩ := vals1 r
      have big : ∀ {as : List Addr}, Reads s.heap u d as → (d.hasDict = true → sysModules ∉ as) → (∃ a, u = .ref a) → wpAny (model X.prog X.w) X.A (call (.builtin "repr") [u]) (EP X pins σ Q) X.xe s := by
        intro as rd hs ⟨a, e⟩
        subst e
        exact PySem.repr_of_reads' rd h1 hs hg (by omega) (fun _ _ e => e) (fun h' u tk hk => ⟨.str _, H, I.kept (t' := tk) hk, ⟨_, rfl⟩, fin⟩) hz
      obtain ⟨as, rd⟩ := vw.reads I hle ru
      cases d with
      | none => cases rd; exact PySem.P.repr_of_none ⟨.str _, H, I.tok _, ⟨_, rfl⟩, fin⟩
      | bool b => cases rd; exact PySem.P.repr_of_bool ⟨.str _, H, I.tok _, ⟨_, rfl⟩, fin⟩
      | int i => cases rd; exact PySem.P.repr_of_int (of_decide_eq_true h1) ⟨.str _, H, I.tok _, ⟨_, rfl⟩, fin⟩
      | str z => cases rd; exact PySem.P.repr_of_str ⟨.str _, H, I.tok _, ⟨_, rfl⟩, fin⟩ hz
      | list ds =>
        have e : ∃ a, u = .ref a := by cases rd; exact ⟨_, rfl⟩
        have h4 : (!PyData.hasDict _) = true := h4
        exact big rd (fun z => by rw [z] at h4; cases h4) e
      | tuple ds =>
        have e : ∃ a, u = .ref a := by cases rd; exact ⟨_, rfl⟩
        have h4 : (!PyData.hasDict _) = true := h4
        exact big rd (fun z => by rw [z] at h4; cases h4) e
      | dict kvs =>
        obtain ⟨a, ys, ex, hd, _⟩ := vw.dict hle
        have hsys : (a == sysModules) = false := (I.hok a _ hd).2.1
        subst ex
        cases ru
        refine big rd (fun _ => ?_) ⟨a, rfl⟩
        cases rd with
        | dict e1 e2 e3 e4 e5 =>
          rw [flat_reads h4 e5]
          have keys : ∀ {kvs : List (DL.D × DL.D)} {us : List Value} {as : List Addr} {ys : List (Key × V)}, RepK X.K F ys kvs → ReadsAll s.heap us (kvs.map (·.1)) as → as = [] := by
            intro kvs us as ys rk ra
            clear e4 e5 h1 h2 h3 h4 hz fin
            induction kvs generalizing us as ys with
            | nil => cases ra; rfl
            | cons p kvs ih =>
              cases rk with
              | @cons k _ _ _ _ r1 r2 =>
                cases ra with
                | cons q1 q2 =>
                  have := ih r2 q2
                  rw [this]
                  cases k with
                  | inl i => cases q1; rfl
                  | inr x => cases q1; rfl
          have rk : ∃ ys', RepK X.K F ys' kvs := by
            rcases vw with h | ⟨b, x, e, ho, e'⟩
            · cases h with
              | dic _ hr => exact ⟨_, hr⟩
            · cases x with
              | lst _ => cases e'
              | dic _ => cases e'; obtain ⟨vs, _, h2⟩ := ho; exact ⟨_, h2⟩
              | rng _ _ => cases e'
              | bor _ _ => cases e'; obtain ⟨_, vs, _, h2⟩ := ho; exact ⟨_, h2⟩
              | pool => cases e'
          obtain ⟨ys', rk⟩ := rk
          rw [keys rk e4]
          intro hm
          have : sysModules = a := by simpa using hm
          rw [this] at hsys
          simp at hsys
    · exact q.elim
  · exact q.elim
end
end DL

namespace DL
open PySem PySem.Spec PyProof.Rows L2
variable [ShObj]

/-! ### the syntax, expression by expression -/
section
variable {X : Cx} {e a b c : Expr} {es : List Expr} {m ma mb mc : M} {pos p : Pos} {x : Str}
theorem de_var (i : Nat) (hN : X.N[i]? = some x := by rfl) (hv : Vis X.env.scope x := by first | exact Or.inl rfl | exact Or.inr (Or.inl rfl) | exact Or.inr (Or.inr rfl)) (hd : (x == ("__debug__" : Str)) = false := by decide)
    (hcd : (x == ("__classdict__" : Str)) = false := by decide) : DE (mVar i) X (.Name x pos) := ⟨PE.imp (pe_var hN hv hd hcd) fun _ _ _ h => mVar_le h⟩
theorem de_int {i : Int} {j : Nat} : DE (mC (.int i)) X (.Constant (.int i) j pos) := ⟨PE.imp pe_int fun _ _ _ h => mC_le (fun _ => .int i) h⟩
theorem de_bool {k : Bool} {j : Nat} : DE (mC (.bool k)) X (.Constant (.bool k) j pos) := ⟨PE.imp pe_bl fun _ _ _ h => mC_le (fun _ => .bl k) h⟩
theorem de_none {j : Nat} : DE (mC .none) X (.Constant .none j pos) := ⟨PE.imp pe_non fun _ _ _ h => mC_le (fun _ => .non) h⟩
theorem de_str {z : Str} {j : Nat} : DE (mC (.str z)) X (.Constant (.str z) j pos) := ⟨PE.imp pe_str fun _ _ _ h => mC_le (fun _ => .str z) h⟩
/-- a constant of the module -/
structure Glob (K : PySem.W.Frag) (mg : Str → Option Value) (x : Str) (d : DL.D) : Prop where
  ex : ∃ u v, mg x = some u ∧ RelV v u ∧ ∀ F, Rep K F v d
theorem de_glob {d : DL.D} (hg : Gl X x) (h : Glob X.K X.mg x d) (hd : (x == ("__debug__" : Str)) = false := by decide) : DE (mC d) X (.Name x pos) := by
  obtain ⟨u, v, hm, r, hr⟩ := h.ex
  exact ⟨PE.imp (pe_glob hg hm r hd) fun _ _ _ h => mC_le hr h⟩
theorem de_bin {op : Operator} {f : DL.D → DL.D → T R} (ho : OpD X (binaryOp op) f) (ha : DE ma X a) (hb : DE mb X b) : DE (mBin f ma mb) X (.BinOp a op b pos) := ⟨PE.imp (pe_op ho ha.pe hb.pe) fun _ _ _ h => mBin_le h⟩
theorem de_un {op : UnaryOp} {f : DL.D → T R} (ho : UnD X (unaryOp op) f) (ha : DE ma X a) : DE (mUn f ma) X (.UnaryOp op a pos) := ⟨PE.imp (pe_un ho ha.pe) fun _ _ _ h => mUn_le h⟩
theorem de_cmp {op : CmpOp} {f : DL.D → DL.D → T R} (ho : OpD X (compareOp op) f) (ha : DE ma X a) (hb : DE mb X b) (hm : behindInMarks op b = false := by rfl) : DE (mBin f ma mb) X (.Compare a [op] [b] pos) := ⟨PE.imp (pe_cmpR ho ha.pe hb.pe hm) fun _ _ _ h => mBin_le h⟩
/-- a op b op' c -/
def mChain (f g : DL.D → DL.D → T R) (ma mb mc : M) : M := fun σ => (ma σ).bind fun p => (mb (frz σ p.2)).bind fun q => (look (frz (frz σ p.2) q.2) p.1).bind fun x => (look (frz (frz σ p.2) q.2) q.1).bind fun y =>
  (f x y).bind fun r => (toB r).bind fun k => if k = true then (mc (frz (frz σ p.2) q.2)).bind fun t => (look (frz (frz (frz σ p.2) q.2) t.2) q.1).bind fun y => (look (frz (frz (frz σ p.2) q.2) t.2) t.1).bind fun z => (g y z).bind fun r => .ret (r, (p.2 ++ q.2) ++ t.2)
    else .ret (.v (.bool false), p.2 ++ q.2)
/-- comparisons make nothing -/
def Bare (f : DL.D → DL.D → T R) : Prop := ∀ d e Q, (f d e).wp Q → (f d e).wp fun r => Q r ∧ ∃ k, r = .v (.bool k)
theorem mChain_le {K : PySem.W.Frag} {σV : L2.St} {H : Hp} {Q : VK} {f g : DL.D → DL.D → T R} (h : LE K (mChain f g ma mb mc) σV H Q) : tChain (LR2 K f) (LR2 K g) (LE K ma) (LE K mb) (LE K mc) σV H Q := by
  obtain ⟨F, σ, s, h⟩ := h
  unfold mChain at h
  rw [T.wp_bind] at h
  refine LE.then s (T.wp_mono h fun p h x F1 H1 s1 g1 r1 => ?_)
  rw [T.wp_bind] at h
  refine LE.then s1 (T.wp_mono h fun q h y F2 H2 s2 g2 r2 => ?_)
  rw [T.wp_bind] at h
  obtain ⟨d, _, v1, h⟩ := look_view ((r1.w s (H0 := H) fun _ o e => ⟨o, e⟩).next g2) s2 h
  rw [T.wp_bind] at h
  have rw2 := r2.w s1 (H0 := H1) (k := q.2) fun _ o e => ⟨o, e⟩
  obtain ⟨d2, _, v2, h⟩ := look_view rw2 s2 h
  rw [T.wp_bind] at h
  refine ⟨F2, d, d2, s2.le, v1, v2, T.wp_mono h fun r h v F3 H3 gr h0 => ?_⟩
  rw [T.wp_bind] at h
  have s3 := s2.grow gr
  have g3 := g2.trans (G.same gr)
  have rr : RR K F3 H3 σV H2 v r := h0.rr
  obtain ⟨k, rfl, _, h⟩ := toB_wp h rr
  refine ⟨k, rfl, ?_⟩
  cases k with
  | false =>
    have h : ∀ v F' H', Hd K F' H' σV (frz σ (p.2 ++ q.2)) → G F σ σV H F' (frz σ (p.2 ++ q.2)) σV H' → RR K F' H' σV H v (.v (.bool false)) → Q v H' := h
    rw [frz_append] at h
    exact h _ F3 H3 s3 (g1.trans g3) (.v (.bl false))
  | true =>
    have h : ((mc (frz (frz σ p.2) q.2)).bind fun t => (look (frz (frz (frz σ p.2) q.2) t.2) q.1).bind fun y => (look (frz (frz (frz σ p.2) q.2) t.2) t.1).bind fun z => (g y z).bind fun r => T.ret (r, (p.2 ++ q.2) ++ t.2)).wp _ := h
    rw [T.wp_bind] at h
    show LE K mc σV H3 _
    refine LE.then s3 (T.wp_mono h fun t h z F4 H4 s4 g4 r4 => ?_)
    rw [T.wp_bind] at h
    obtain ⟨d3, _, v3, h⟩ := look_view ((rw2.next (G.same gr)).next g4) s4 h
    rw [T.wp_bind] at h
    obtain ⟨d4, _, v4, h⟩ := look_view (r4.w s3 (H0 := H3) fun _ o e => ⟨o, e⟩) s4 h
    rw [T.wp_bind] at h
    rw [← frz_append, ← frz_append] at s4
    have gg := (g1.trans g3).trans g4
    rw [← frz_append, ← frz_append] at gg
    rw [← List.append_assoc] at s4 gg
    exact ⟨F4, d3, d4, s4.le, v3, v4, T.wp_mono h fun r h v F' H' gr h0 => fin0 s4 gg gr h0 h⟩
theorem de_chain {op op' : CmpOp} {f g : DL.D → DL.D → T R} (ho : OpD X (compareOp op) f) (ho' : OpD X (compareOp op') g) (ha : DE ma X a) (hb : DE mb X b) (hc : DE mc X c) (hm : lastMarks [op, op'] [b, c] = false := by with_unfolding_all rfl) :
    DE (mChain f g ma mb mc) X (.Compare a [op, op'] [b, c] pos) := ⟨PE.imp (pe_chain ho ho' ha.pe hb.pe hc.pe hm) fun _ _ _ h => mChain_le h⟩
theorem de_ix (hu : X.A.units + 150 < cLine) (ha : DE ma X a) (hb : DE mb X b) (hs : PlainIx b := by exact fun _ _ => rfl) : DE (mBin dIx ma mb) X (.Subscript a b pos) := ⟨PE.imp (pe_ix (ix_ok hu) ha.pe hb.pe hs) fun _ _ _ h => mBin_le h⟩
theorem do_none : DO oNone X none := ⟨⟨fun pins s σ H Q I h => po_none.run pins s σ H Q I (oNone_lo h)⟩⟩
theorem do_some (h : DE m X e) : DO (oSome m) X (some e) := ⟨⟨fun pins s σ H Q I q => (po_some h.pe).run pins s σ H Q I (oSome_lo q)⟩⟩
theorem de_sl {lo hi : Option Expr} {ml mh : MO} {p2 : Pos} (he : DE m X e) (hl : DO ml X lo) (hh : DO mh X hi) : DE (mSl m ml mh) X (.Subscript e (.Slice lo hi none p2) pos) := ⟨PE.imp (pe_slice sl_ok he.pe hl.po hh.po) fun _ _ _ h => mSl_le h⟩
theorem da_nil : DA mNil X [] := ⟨PA.imp pa_nil fun _ _ _ h => mNil_la h⟩
theorem da_cons {mr : MA} (ha : DE m X e) (hr : DA mr X es) (hs : starEach (e :: es) X.env = (false, eval e X.env) :: starEach es X.env := by rfl) : DA (mCons m mr) X (e :: es) := ⟨PA.imp (pa_cons ha.pe hr.pa hs) fun _ _ _ h => mCons_la h⟩
theorem de_tup {ms : MA} {k : Nat} (h : DA ms X es) : DE (mTup ms) X (.Tuple es k pos) := ⟨PE.imp (pe_tup h.pa) fun _ _ _ h => mTup_le h⟩
theorem de_lst {ms : MA} (h : DA ms X es) : DE (mLst ms) X (.List es pos) := ⟨PE.imp (pe_lst h.pa) fun _ _ _ h => mLst_le h⟩
theorem de_if {mt : MT} (hc : DT mt X c) (ha : DE ma X a) (hb : DE mb X b) : DE (mIf mt ma mb) X (.IfExp c a b pos) := ⟨PE.imp (pe_ifExp hc.pt ha.pe hb.pe) fun _ _ _ h => mIf_le h⟩
theorem de_one {op : BoolOp} (h : DE m X a) : DE m X (.BoolOp op [a] pos) := ⟨pe_one h.pe⟩
theorem de_and {rest : List Expr} (ha : DE ma X a) (hb : DE mb X (.BoolOp .And (b :: rest) pos)) : DE (mAndV ma mb) X (.BoolOp .And (a :: b :: rest) pos) := ⟨PE.imp (pe_and ha.pe hb.pe) fun _ _ _ h => mAndV_le h⟩
theorem de_or {rest : List Expr} (ha : DE ma X a) (hb : DE mb X (.BoolOp .Or (b :: rest) pos)) : DE (mOrV ma mb) X (.BoolOp .Or (a :: b :: rest) pos) := ⟨PE.imp (pe_or ha.pe hb.pe) fun _ _ _ h => mOrV_le h⟩
theorem de_not (ha : DE m X a) : DE (mNotV m) X (.UnaryOp .Not a pos) := ⟨PE.imp (pe_not ha.pe) fun _ _ _ h => mNotV_le h⟩
/-- tests -/
theorem dt_val (h : DE m X e) (he : ∀ whole, isTrue e X.env whole = (do let v ← whole; standAt e.pos; holding [v] (truthy v)) := by intro _; rfl) : DT (tOf m) X e := ⟨PT.imp (pt_val h.pe he) fun _ _ _ h => tOf_lt h⟩
theorem tTest_lt {K : PySem.W.Frag} {σV : L2.St} {H : Hp} {Q : Bool → Hp → Prop} {t : TE} (ht : ∀ Q, LE K m σV H Q → t σV H Q) (h : LT K (tOf m) σV H Q) : tTest t σV H Q := by
  obtain ⟨F, σ, s, h⟩ := h
  unfold tOf at h
  rw [T.wp_bind] at h
  refine ht _ (LE.then s (T.wp_mono h fun p h x F1 H1 s1 g1 r1 => ?_))
  rw [T.wp_bind] at h
  obtain ⟨b, rfl, _, h⟩ := toB_wp h r1
  exact ⟨b, rfl, h F1 H1 s1 g1⟩
theorem dt_cmp {op : CmpOp} {f : DL.D → DL.D → T R} (ho : OpD X (compareOp op) f) (ha : DE ma X a) (hb : DE mb X b) (hm : behindInMarks op b = false := by rfl) : DT (tOf (mBin f ma mb)) X (.Compare a [op] [b] pos) :=
  ⟨PT.imp (pt_cmpR ho ha.pe hb.pe hm) fun _ _ _ h => tTest_lt (fun _ h => mBin_le h) h⟩
theorem dt_chain {op op' : CmpOp} {f g : DL.D → DL.D → T R} (ho : OpD X (compareOp op) f) (ho' : OpD X (compareOp op') g) (ha : DE ma X a) (hb : DE mb X b) (hc : DE mc X c) (hm : lastMarks [op, op'] [b, c] = false := by with_unfolding_all rfl) :
    DT (tOf (mChain f g ma mb mc)) X (.Compare a [op, op'] [b, c] pos) := ⟨PT.imp (pt_chain ho ho' ha.pe hb.pe hc.pe hm) fun _ _ _ h => tTest_lt (fun _ h => mChain_le h) h⟩
theorem dt_not {mt : MT} (h : DT mt X a) : DT (tNotM mt) X (.UnaryOp .Not a pos) := ⟨PT.imp (pt_not h.pt) fun _ _ _ h => tNotM_lt h⟩
theorem dw_and1 {mt : MT} (h : DT mt X a) : DW mt X (.BoolOp .And [a] pos) := ⟨pw_and1 h.pt⟩
theorem dw_or1 {mt : MT} (h : DT mt X a) : DW mt X (.BoolOp .Or [a] pos) := ⟨pw_or1 h.pt⟩
theorem dw_and {mt mu : MT} {rest : List Expr} (ha : DT mt X a) (hb : DW mu X (.BoolOp .And (b :: rest) pos)) : DW (tAndM mt mu) X (.BoolOp .And (a :: b :: rest) pos) := ⟨PW.imp (pw_and ha.pt hb.pw) fun _ _ _ h => tAndM_lt h⟩
theorem dw_or {mt mu : MT} {rest : List Expr} (ha : DT mt X a) (hb : DW mu X (.BoolOp .Or (b :: rest) pos)) : DW (tOrM mt mu) X (.BoolOp .Or (a :: b :: rest) pos) := ⟨PW.imp (pw_or ha.pt hb.pw) fun _ _ _ h => tOrM_lt h⟩
theorem dt_w {mt : MT} (h : DW mt X e) : DT mt X e := ⟨h.pw.pt⟩
/-- calls -/
theorem de_b {id : String} {f : List DL.D → T R} {ms : MA} (hc : CallD X (.builtin id) f) (hg : Gl X x) (hm : X.mg x = none) (hv : bootBuiltins x = some (.builtin id)) (ha : DA ms X (e :: es)) (hn : x ≠ "__name__" := by decide) (hdb : (x == ("__debug__" : Str)) = false := by decide)
    (he : starEach (e :: es) X.env = (false, eval e X.env) :: starEach es X.env := by rfl) (hpl : (backTo pos (starEach es X.env)).any (·.1) = false := by rfl) : DE (mB f ms) X (.Call (.Name x p) (e :: es) [] pos) := ⟨PE.imp (pe_callB hc hg hm hv ha.pa hn hdb he hpl) fun _ _ _ h => mB_le h⟩
theorem de_ty {id : String} {f : List DL.D → T R} {ms : MA} (hc : CallD X (.type id) f) (hg : Gl X x) (hm : X.mg x = none) (hv : bootBuiltins x = some (.type id)) (ha : DA ms X (e :: es)) (hn : x ≠ "__name__" := by decide) (hdb : (x == ("__debug__" : Str)) = false := by decide)
    (he : starEach (e :: es) X.env = (false, eval e X.env) :: starEach es X.env := by rfl) (hpl : (backTo pos (starEach es X.env)).any (·.1) = false := by rfl) : DE (mB f ms) X (.Call (.Name x p) (e :: es) [] pos) := ⟨PE.imp (pe_callTy hc hg hm hv ha.pa hn hdb he hpl) fun _ _ _ h => mB_le h⟩
theorem de_isi {ty : String} {t : Str} {p2 : Pos} (hT : ty ∈ ["int", "bool", "str", "tuple", "list", "dict"]) (hg : Gl X "isinstance") (hm : X.mg "isinstance" = none) (hg2 : Gl X t) (hm2 : X.mg t = none) (hv2 : bootBuiltins t = some (.type ty)) (ha : DE m X e)
    (hn2 : t ≠ "__name__" := by decide) (hd2 : (t == ("__debug__" : Str)) = false := by decide) (h1 : starEach [e, .Name t p2] X.env = (false, eval e X.env) :: starEach [.Name t p2] X.env := by rfl) (h2 : starEach [.Name t p2] X.env = (false, eval (.Name t p2) X.env) :: starEach [] X.env := by rfl)
    (hpl : (backTo pos (starEach [.Name t p2] X.env)).any (·.1) = false := by rfl) : DE (mIsi ty m) X (.Call (.Name "isinstance" p) [e, .Name t p2] [] pos) :=
  ⟨PE.imp (pe_callB call_isi hg hm (by decide +kernel) (pa_cons ha.pe (pa_cons (pe_bltn hg2 hm2 hv2 (v := .ty ty) rfl hn2 hd2) pa_nil h2) h1) (by decide) (by decide) h1 hpl) fun _ _ _ h => mIsi_le hT h⟩
/-- a def of the text, by its mirror -/
structure Fn (P : Program) (w : World) (K : PySem.W.Frag) (mg : Str → Option Value) (base : Heap) (k : Nat) (x : Str) (n : Nat) (f : List Sl → T R) : Prop where
  ex : ∃ (a : Addr) (fd : FuncData) (ps : List Str), FnOk P w K mg base CX0 k a fd ps (spD K n f) ∧ mg x = some (.ref a) ∧ PySem.W.keepIn K (.ref a) = true ∧ Binds K fd ps []
theorem de_call {k k' n : Nat} {f : List Sl → T R} {ms : MA} (F : Fn X.prog X.w X.K X.mg X.base k x n f) (hr : Room k' X.A) (hk : k ≤ k') (hg : Gl X x) (ha : DA ms X (e :: es)) (hc : CntA ms n) (hdb : (x == ("__debug__" : Str)) = false := by decide)
    (he : starEach (e :: es) X.env = (false, eval e X.env) :: starEach es X.env := by rfl) (hpl : (backTo pos (starEach es X.env)).any (·.1) = false := by rfl) : DE (mCall f ms) X (.Call (.Name x p) (e :: es) [] pos) := by
  obtain ⟨a, fd, ps, F, hm, hk', hb⟩ := F.ex
  exact ⟨PE.imp (pe_call F (hr.mono hk) hg hm hk' hb .nil pass0 ha.pa hdb he hpl) fun _ _ _ h => mCall_le hc h⟩
theorem de_call0 {k k' : Nat} {f : List Sl → T R} (F : Fn X.prog X.w X.K X.mg X.base k x 0 f) (hr : Room k' X.A) (hk : k ≤ k') (hg : Gl X x) (hdb : (x == ("__debug__" : Str)) = false := by decide) : DE (mCall f mNil) X (.Call (.Name x p) [] [] pos) := by
  obtain ⟨a, fd, ps, F, hm, hk', hb⟩ := F.ex
  exact ⟨PE.imp (pe_call0 F (hr.mono hk) hg hm hk' hb .nil pass0 hdb) fun _ _ _ h => by
    have := mCall_le cnt_nil h
    obtain ⟨F, σ, s, h⟩ := this
    exact h [] F _ s G.refl .nil⟩
/-- dict displays -/
def mDic0 : M := fun _ => .ret (.o (.dic []), [])
def mDic1 (k : Str) (i : Int) : M := fun _ => .ret (.o (.dic [(.inr k, .int i)]), [])
theorem de_dic0 : DE mDic0 X (.Dict [] [] pos) := ⟨PE.imp pe_dnewK fun σV H Q h => by
  obtain ⟨F, σ, s, h⟩ := h
  intro q hq
  have gr : Grow F H F (upd H q (.dK [])) := .newO s.le hq
  exact h (.ref q) F _ (s.grow gr) (G.same gr) (.o (by intro z; cases z) (s.le.free hq) hq ⟨[], upd_same, .nil⟩)⟩
theorem de_dic1 {k : Str} {i : Int} {j1 j2 : Nat} {p1 p2 : Pos} : DE (mDic1 k i) X (.Dict [some (.Constant (.str k) j1 p1)] [.Constant (.int i) j2 p2] pos) :=
  ⟨PE.imp (pe_disp (pps_cons pe_str pe_int pps_nil) rfl rfl (by simp) (by simp)) fun σV H Q h => by
    obtain ⟨F, σ, s, h⟩ := h
    intro q hq
    have gr : Grow F H F (upd H q (.dK [(.inr k, .int i)])) := .newO s.le hq
    refine ⟨upd_same, [(.inr k, .int i)], rfl, by simp, ?_⟩
    show Q (.ref q) (upd (upd H q (.dK [])) q (.dK [(.inr k, .int i)]))
    rw [upd_upd]
    exact h (.ref q) F _ (s.grow gr) (G.same gr) (.o (by intro z; cases z) (s.le.free hq) hq ⟨[(.inr k, .int i)], upd_same, .cons (.int i) .nil⟩)⟩
end

/-! ### targets -/
structure Tg (is : List Nat) (g : MG) (X : Cx) (t : Expr) : Prop where pg : PG X t (LG X.K is g)
structure Tgs (is : List Nat) (g : MGs) (X : Cx) (t : List Expr) : Prop where pgs : PGs X t (LGs X.K is g)
theorem PG.imp {X : Cx} {e : Expr} {t t' : TG} (h : PG X e t) (m : ∀ v σ H Q, t' v σ H Q → t v σ H Q) : PG X e t' := ⟨fun pins s σ H v u Q I r q => h.run pins s σ H v u Q I r (m v σ H Q q)⟩
theorem PGs.imp {X : Cx} {e : List Expr} {t t' : TGs} (h : PGs X e t) (m : ∀ v σ H Q, t' v σ H Q → t v σ H Q) : PGs X e t' := ⟨fun pins s σ H v u Q I r q => h.run pins s σ H v u Q I r (m v σ H Q q)⟩
theorem LG.noH {K : PySem.W.Frag} {is : List Nat} {g : MG} {v : V} {σV : L2.St} {H : Hp} {Q : L2.St → Hp → Prop} (h : LG K is g v σV H Q) : LG K is g v σV H Q := h
section
variable {X : Cx} {e : Expr} {es : List Expr} {pos : Pos}
theorem tg_name (i : Nat) {x : Str} (hN : X.N.Nodup) (hi : X.N[i]? = some x := by rfl) (hx : Loc X.env.scope x := by first | exact Or.inl rfl | exact Or.inr rfl) (hf : X.fn x = true ∨ X.env.scope.names.lookup x = some .local := by first | exact .inl rfl | exact .inr rfl) :
    Tg [i] (gSet i) X (.Name x pos) := ⟨PG.imp (pg_name hN hi hx hf) fun _ _ _ _ h => gSet_lg h⟩
theorem tgs_nil : Tgs [] gsNil X [] := ⟨PGs.imp pgs_nil fun _ _ _ _ h => gsNil_lg h⟩
theorem tgs_cons {is js : List Nat} {g : MG} {gs : MGs} (h1 : Tg is g X e) (h2 : Tgs js gs X es) (hs : (assignEach (e :: es) X.env).map (·.2) = assign e X.env :: (assignEach es X.env).map (·.2) := by rfl) : Tgs (is ++ js) (gsCons g gs) X (e :: es) :=
  ⟨PGs.imp (pgs_cons h1.pg h2.pgs hs) fun _ _ _ _ h => gsCons_lg h⟩
theorem tg_tup {is : List Nat} {gs : MGs} {k n : Nat} (hc : X.calm = true) (h : Tgs is gs X es) (hn : (assignEach es X.env).length = n := by rfl) (hst : (assignEach es X.env).findIdx? (·.1) = none := by rfl) : Tg is (gTupM n gs) X (.Tuple es k pos) :=
  ⟨PG.imp (pg_tup hc h.pgs hn hst) fun _ _ _ _ h => gTupM_lg h⟩
theorem gok_set (i : Nat) : GOk [i] (gSet i) := by
  intro d σ Q h
  have key : i < σ.length → Q (σ.set i (.v d)) → (T.ret (σ.set i (.v d))).wp fun σ' => Q σ' ∧ σ'.length = σ.length ∧ (∀ j, j ∉ [i] → σ'[j]? = σ[j]?) ∧ ∀ (j : Nat) x, σ'[j]? = some (.o x) → j ∉ [i] ∧ σ[j]? = some (.o x) := fun hi h => by
    refine ⟨h, List.length_set, fun j hj => List.getElem?_set_ne fun z => hj (by rw [z]; exact List.mem_cons_self), fun j x e => ?_⟩
    rw [set_get hi] at e
    by_cases hj : j = i
    · rw [if_pos hj] at e; cases e
    · rw [if_neg hj] at e; exact ⟨by simpa using hj, e⟩
  unfold gSet at h ⊢
  cases e : σ[i]? with
  | none => rw [e] at h; exact h.elim
  | some sl =>
    have hi : i < σ.length := (List.getElem?_eq_some_iff.mp e).1
    rw [e] at h
    cases sl with
    | u => exact key hi h
    | v _ => exact key hi h
    | o x =>
      cases x with
      | pool => exact h.elim
      | lst _ => exact key hi h
      | dic _ => exact key hi h
      | rng _ _ => exact key hi h
      | bor _ _ => exact key hi h
/-- .. of several -/
def GsOk (is : List Nat) (g : MGs) : Prop := ∀ d σ Q, (g d σ).wp Q → (g d σ).wp fun σ' => Q σ' ∧ σ'.length = σ.length ∧ (∀ j, j ∉ is → σ'[j]? = σ[j]?) ∧ ∀ (j : Nat) x, σ'[j]? = some (.o x) → j ∉ is ∧ σ[j]? = some (.o x)
theorem gsok_nil : GsOk [] gsNil := by
  intro ds σ Q h
  unfold gsNil at h ⊢
  cases ds with
  | nil => exact ⟨h, rfl, fun _ _ => rfl, fun j x e => ⟨by simp, e⟩⟩
  | cons _ _ => exact h.elim
theorem gsok_cons {is js : List Nat} {g : MG} {gs : MGs} (h1 : GOk is g) (h2 : GsOk js gs) : GsOk (is ++ js) (gsCons g gs) := by
  intro ds σ Q h
  unfold gsCons at h ⊢
  cases ds with
  | nil => exact h.elim
  | cons d r =>
    simp only [T.wp_bind] at h ⊢
    refine T.wp_mono (h1 d σ _ h) fun σ1 ⟨h, l1, o1, w1⟩ => T.wp_mono (h2 r σ1 _ h) fun σ2 ⟨h, l2, o2, w2⟩ => ⟨h, l2.trans l1, fun j hj => (o2 j fun z => hj (List.mem_append_right _ z)).trans (o1 j fun z => hj (List.mem_append_left _ z)), fun j x e => ?_⟩
    obtain ⟨a, b⟩ := w2 j x e
    obtain ⟨c, d⟩ := w1 j x b
    exact ⟨fun z => (List.mem_append.mp z).elim c a, d⟩
theorem gok_tup {is : List Nat} {gs : MGs} {n : Nat} (h : GsOk is gs) : GOk is (gTupM n gs) := by
  intro d σ Q q
  unfold gTupM at q ⊢
  cases d with
  | tuple ds =>
    by_cases e : ds.length = n
    · simp only [e, if_true] at q ⊢; exact h ds σ Q q
    · simp only [e, if_false] at q; exact q.elim
  | _ => exact q.elim
/-- a comprehension -/
theorem de_lc {elt tg iter : Expr} {ifs : List Expr} {scope : Scope} {own : List (Str × Nat)} {mi : MI} {g : MG} {tt : MT} {te : M} {is : List Nat} (hc : X.calm = true) (hN : X.N.Nodup) (hi : DI mi X tg iter) (ok : BlkOk X.N X.env.scope scope own) (his : ∀ i ∈ is, i ∈ own.map (·.2)) (gk : GOk is g)
    (hg : ∀ (s : Shared) (H : Hp) (C : Addr) (cl : List (Str × Addr)) (fp : List Addr), Tg is g (X.blk s H scope (compEnvC scope cl C X.env) fp) tg) (ht : ∀ (s : Shared) (H : Hp) (C : Addr) (cl : List (Str × Addr)) (fp : List Addr), PTs (X.blk s H scope (compEnvC scope cl C X.env) fp) ifs (LT X.K tt))
    (he : ∀ (s : Shared) (H : Hp) (C : Addr) (cl : List (Str × Addr)) (fp : List Addr), DE te (X.blk s H scope (compEnvC scope cl C X.env) fp) elt) (hs : ∀ x, foldedSetIterable iter X.env x = pure x := by intro _; rfl) :
    DE (mLc mi g tt te (own.map (·.2))) X (.ListComp elt [⟨tg, iter, ifs, 0⟩] scope pos) :=
  ⟨PE.imp (pe_lc hc hN hi.pi ok (fun s H C cl fp => (hg s H C cl fp).pg) ht (fun s H C cl fp => (he s H C cl fp).pe) hs) fun _ _ _ h => mLc_le his gk h⟩
def tYesM : MT := fun _ => .ret (true, [])
theorem pts_yes {X : Cx} : PTs X [] (LT X.K tYesM) := ⟨fun pins s σ H Q I h => pts_nil.run pins s σ H Q I (by obtain ⟨F, σ, s, h⟩ := h; exact h F H s G.refl)⟩
theorem pts_if {X : Cx} {c : Expr} {mt : MT} (h : DT mt X c) : PTs X [c] (LT X.K mt) := pts_one h.pt
end

/-! ### statements -/
section
variable {X : Cx} {st : Stmt} {rest : List Stmt} {e c tg iter : Expr} {body orelse : List Stmt} {m : M} {s1 s2 : MS} {pos : Pos}
theorem db_nil : DB sNext X [] := ⟨PSs.imp pss_nil fun _ _ _ h => sNext_ls h⟩
theorem db_one (h : DS s1 X st) : DB s1 X [st] := ⟨pss_one h.ps⟩
theorem db_cons (h : DS s1 X st) (h2 : DB s2 X rest) : DB (sSeq s1 s2) X (st :: rest) := ⟨PSs.imp (pss_cons h.ps h2.pss) fun _ _ _ h => sSeq_ls h⟩
theorem ds_pass : DS sNext X (.Pass pos) := ⟨PS.imp ps_pass fun _ _ _ h => sNext_ls h⟩
theorem ds_break : DS sBreak X (.Break pos) := ⟨PS.imp ps_break fun _ _ _ h => sBreak_ls h⟩
theorem ds_cont : DS sCont X (.Continue pos) := ⟨PS.imp ps_continue fun _ _ _ h => sCont_ls h⟩
theorem ds_expr (h : DE m X e) (hs : swapsWith e none pos.line X.env = pure false := by rfl) : DS (sExpr m) X (.Expr e pos) := ⟨PS.imp (ps_expr h.pe hs) fun _ _ _ h => sExpr_ls h⟩
theorem ds_ret (h : DE m X e) : DS (sRet m) X (.Return (some e) pos) := ⟨PS.imp (ps_ret h.pe) fun _ _ _ h => sRet_ls h⟩
theorem ds_retN : DS sRetN X (.Return none pos) := ⟨PS.imp ps_retN fun _ _ _ h => sRetN_ls h⟩
theorem ds_if {mt : MT} (hc : DT mt X c) (ha : DB s1 X body) (hb : DB s2 X orelse) : DS (sIf mt s1 s2) X (.If c body orelse pos) := ⟨PS.imp (ps_if hc.pt ha.pss hb.pss) fun _ _ _ h => sIf_ls h⟩
theorem ds_set (i : Nat) {x : Str} {pos' : Pos} (hN : X.N.Nodup) (he : DE m X e) (hi : X.N[i]? = some x := by rfl) (hx : Loc X.env.scope x := by first | exact Or.inl rfl | exact Or.inr rfl) (hs : swapsWith e (some (.Name x pos')) pos.line X.env = pure false := by rfl)
    (hf : X.fn x = true ∨ X.env.scope.names.lookup x = some .local := by first | exact .inl rfl | exact .inr rfl) : DS (sSet i m) X (.Assign [.Name x pos'] e pos) := ⟨PS.imp (ps_set hN hi hx he.pe hs hf) fun _ _ _ h => sSet_ls h⟩
theorem ds_asg {is : List Nat} {g : MG} (he : DE m X e) (hg : Tg is g X tg) (hs : swapsWithSole [tg] e pos.line X.env = pure false := by rfl) (hw : swappedStores [tg] e X.env = pure none := by rfl) (h1 : (assignEach [tg] X.env).map (·.2) = [assign tg X.env] := by rfl) :
    DS (sAsg g m) X (.Assign [tg] e pos) := ⟨PS.imp (ps_asg he.pe hg.pg hs hw h1) fun _ _ _ h => sAsg_ls h⟩
theorem ds_for {is : List Nat} {g : MG} {mi : MI} (hp : PassesOwn (model X.prog X.w) X.A X.env X.xe) (hc : X.calm = true) (hi : DI mi X tg iter) (hg : Tg is g X tg) (hb : DB s1 X body) (hs : ∀ x, foldedSetIterable iter X.env x = pure x := by intro _; rfl) :
    DS (sFor mi g s1) X (.For tg iter body [] pos) := ⟨PS.imp (ps_for hp hc hi.pi hg.pg hb.pss hs) fun _ _ _ h => sFor_ls h⟩
theorem ds_while (n : Nat) {mt : MT} (hp : PassesOwn (model X.prog X.w) X.A X.env X.xe) (hc : DT mt X c) (hb : DB s1 X body) : DS (sWhile n mt s1) X (.While c body [] pos) := ⟨PS.imp (ps_while hp hc.pt hb.pss) fun _ _ _ h => sWhile_ls h⟩
theorem ds_app (i : Nat) {x : Str} {p1 p2 p3 : Pos} (hN : X.N[i]? = some x := by rfl) (hv : Vis X.env.scope x := by first | exact Or.inl rfl | exact Or.inr (Or.inl rfl) | exact Or.inr (Or.inr rfl)) (he : DE m X e)
    (hps : PS X (.Expr (.Call (.Attribute (.Name x p1) "append" p2) [e] [] p3) pos) (tDrop (tBM X.K "list" rAppend (tVar i) (tCons (LE X.K m) tNil)))) : DS (sApp i m) X (.Expr (.Call (.Attribute (.Name x p1) "append" p2) [e] [] p3) pos) := ⟨PS.imp hps fun _ _ _ h => sApp_ls h⟩
theorem ds_aug (i : Nat) {x : Str} {pos' : Pos} {op : Operator} {f : Int → Int → Int} (ho : PIp X op (ipI f)) (hN : X.N.Nodup) (he : DE m X e) (hi : X.N[i]? = some x := by rfl) (hx : Loc X.env.scope x := by first | exact Or.inl rfl | exact Or.inr rfl)
    (hf : X.fn x = true ∨ X.env.scope.names.lookup x = some .local := by first | exact .inl rfl | exact .inr rfl) : DS (sAug i (intOp f) m) X (.AugAssign (.Name x pos') op e pos) := ⟨PS.imp (ps_aug hN hi hx he.pe ho hf) fun _ _ _ h => sAug_ls h⟩
theorem ds_put (i : Nat) {mk : M} {x : Str} {k : Expr} {p1 p2 : Pos} (hk : DE mk X k) (he : DE m X e) (hN : X.N[i]? = some x := by rfl) (hv : Vis X.env.scope x := by first | exact Or.inl rfl | exact Or.inr (Or.inl rfl) | exact Or.inr (Or.inr rfl)) (hd : (x == ("__debug__" : Str)) = false := by decide) (hcd : (x == ("__classdict__" : Str)) = false := by decide)
    (hs : swapsWithSole [.Subscript (.Name x p1) k p2] e pos.line X.env = pure false := by rfl) (hw : swappedStores [.Subscript (.Name x p1) k p2] e X.env = pure none := by rfl) (h1 : (assignEach [.Subscript (.Name x p1) k p2] X.env).map (·.2) = [assign (.Subscript (.Name x p1) k p2) X.env] := by rfl)
    (ha : ∀ v, assign (.Subscript (.Name x p1) k p2) X.env v = (do
      let ov ← holding [v] (eval (.Name x p1) X.env)
      let iv ← holding [v, ov] (eval k X.env)
      standAt p2
      holding [v, ov, iv] (setItem ov iv v)
      release [v, ov, iv] []) := by intro _; rfl) : DS (sPut i mk m) X (.Assign [.Subscript (.Name x p1) k p2] e pos) :=
  ⟨PS.imp (ps_asg he.pe (pg_sub (pe_var hN hv hd hcd) hk.pe set_list ha) hs hw h1) fun _ _ _ h => sPut_ls h⟩
theorem ds_setLc (i : Nat) {y : Str} {py : Pos} {elt tg iter : Expr} {ifs : List Expr} {scope : Scope} {own : List (Str × Nat)} {mi : MI} {g : MG} {tt : MT} {te : M} {is : List Nat} {lpos : Pos} (hc : X.calm = true) (hN : X.N.Nodup) (hyl : X.env.scope.names.lookup y = some .local) (hsw : swapsWith (.ListComp elt [⟨tg, iter, ifs, 0⟩] scope lpos) (some (.Name y py)) pos.line X.env = pure true)
    (hi : DI mi X tg iter) (ok : BlkOk X.N X.env.scope scope own) (his : ∀ i ∈ is, i ∈ own.map (·.2)) (gk : GOk is g)
    (hg : ∀ (s : Shared) (H : Hp) (C : Addr) (cl : List (Str × Addr)) (fp : List Addr), Tg is g (X.blk s H scope (compEnvC scope cl C X.env) fp) tg) (ht : ∀ (s : Shared) (H : Hp) (C : Addr) (cl : List (Str × Addr)) (fp : List Addr), PTs (X.blk s H scope (compEnvC scope cl C X.env) fp) ifs (LT X.K tt))
    (he : ∀ (s : Shared) (H : Hp) (C : Addr) (cl : List (Str × Addr)) (fp : List Addr), DE te (X.blk s H scope (compEnvC scope cl C X.env) fp) elt) (hy : X.N[i]? = some y := by rfl) (hs : ∀ x, foldedSetIterable iter X.env x = pure x := by intro _; rfl) :
    DS (sSet i (mLc mi g tt te (own.map (·.2)))) X (.Assign [.Name y py] (.ListComp elt [⟨tg, iter, ifs, 0⟩] scope lpos) pos) :=
  ⟨PS.imp (ps_setLc hc hN hy hyl hsw hi.pi ok (fun s H C cl fp => (hg s H C cl fp).pg) ht (fun s H C cl fp => (he s H C cl fp).pe) hs) fun D σV H h => by
    have := sSet_ls h
    exact mLc_le his gk this⟩
end
end DL

namespace DL
open PySem PySem.Spec PyProof.Rows L2
/-- the draws' own list -/
def drawsInv (F H : Hp) (a s : Addr) : Prop := ∃ (ns : List Int) (i c n t : Int), H a = some (.lst [.ref s, .int i, .int c, .int n, .int t]) ∧ F s = some (.lst (ns.map V.int)) ∧ ns.length ≤ 63 ∧ 0 ≤ i
instance drawsObj : ShObj where
  inv := drawsInv
  mono := fun ⟨ns, i, c, n, t, e1, e2, r⟩ e k => ⟨ns, i, c, n, t, k _ e1, e _ _ e2, r⟩
  there := fun ⟨_, _, _, _, _, e, _⟩ => ⟨_, e⟩
  back := fun q q' e => by
    obtain ⟨ns, i', c, nn, t, q1, q2, q3⟩ := q
    obtain ⟨ns', i'', c', n', t', p1, p2, p3⟩ := q'
    rw [e _ _ q2] at p2
    have e : ns.map V.int = ns'.map V.int := by injection p2 with p2; injection p2
    exact ⟨ns, i'', c', n', t', p1, q2, q3.1, p3.2⟩

/-! ### the law's own def: called by the claim's caller alone, with no repr running around it -/
/-- what the law's def does when the claim calls it -/
def LawRuns (P : Program) (w : World) (K : PySem.W.Frag) (mg : Str → Option Value) (fa : Addr) : Prop :=
  ∀ (base : Heap), K.In base → base.Ns mainGlobals mg → ∀ (s : Shared) (H : Hp) (a : Addr) (ns : List Int), ns.length ≤ 63 → Only H → SqL K H a (ns.map V.int) → Env0 P w K mg base callerA [] s H →
    codeAny (model P w) callerA (.call (.ref fa) ⟨[.ref a], []⟩) (CR CX0 [] P w H s (fun v _ => v = .bl true) E0) s
theorem law_end {P : Program} {w : World} {K : PySem.W.Frag} {mg mb : Str → Option Value} {fa a : Addr} {s₁ : Shared} {vs : List Value} {ns : List Int} (R : LawRuns P w K mg fa)
    (KX : K.In s₁.heap) (hns : s₁.heap.Ns mainGlobals mg) (hb : s₁.heap.Ns builtinsNs mb) (hbb : ∀ x : Str, x ≠ "__name__" → mb x = bootBuiltins x) (hlim : s₁.heap.NoLimit) (hg : s₁.gens = #[])
    (ha : s₁.heap.get? a = some { cls := .type "list", data := .seq vs.toArray }) (hi : IntsAre vs ns) (hl : ns.length ≤ 63) :
    codeAny (model P w) callerA (.call (.ref fa) ⟨[.ref a], []⟩) (fun r s' => r = .ok (.ret (.bool true)) ∧ OldK s₁.heap s'.heap ∧ s'.os = s₁.os ∧ AllBare s'.gens) s₁ := by
  have rv := vals_ints hi
  have hsz : ns.length ≤ sizeLine := Nat.le_trans hl (by decide)
  -- the abstract heap: the script, where it is no object of the module
  obtain ⟨H, hH⟩ : ∃ H : Hp, H = fun b => if b = a ∧ K.lookup a = none then some (.frz { cls := .type "list", data := .seq vs.toArray } (.lst (ns.map V.int))) else none := ⟨_, rfl⟩
  have at_a : ∀ {b o}, H b = some o → b = a ∧ K.lookup a = none ∧ o = .frz { cls := .type "list", data := .seq vs.toArray } (.lst (ns.map V.int)) := fun {b o} e => by
    rw [hH] at e
    by_cases h : b = a ∧ K.lookup a = none
    · have e := (if_pos h).symm.trans e
      exact ⟨h.1, h.2, (Option.some.inj e).symm⟩
    · exact nomatch (if_neg h).symm.trans e
  have only : Only H := fun b => by
    cases e : H b with
    | none => exact .inl rfl
    | some o => obtain ⟨_, _, rfl⟩ := at_a e; exact .inr ⟨_, _, rfl⟩
  have hok : HOk P w H s₁.heap := fun b o e => by
    obtain ⟨rfl, _, rfl⟩ := at_a e
    exact ⟨ha, by rw [List.length_map]; exact hsz, vs, _, rv, ha⟩
  have seq : SqL K H a (ns.map V.int) := by
    cases hk : K.lookup a with
    | none => exact .inl (.inr ⟨{ cls := .type "list", data := .seq vs.toArray }, by rw [hH]; exact if_pos ⟨rfl, hk⟩⟩)
    | some o =>
      have e := KX a o hk
      rw [ha] at e; cases e
      refine .inr ⟨_, vs.toArray, _, hk, rfl, rfl, rfl, ?_, by simpa using rv⟩
      have := hi.length
      rw [List.size_toArray]; omega
  -- the base: the heap without the script
  have stays : ∀ {b o}, s₁.heap.get? b = some o → H b = none → (hidT s₁.heap H).get? b = some o := fun e n => hidT_get e n
  have names : ∀ {b : Addr} {m : Str → Option Value}, s₁.heap.Ns b m → (hidT s₁.heap H).Ns b m := fun {b m} ⟨o, es, ep, e, d, r⟩ => by
    refine ⟨o, es, ep, stays e ?_, d, r⟩
    cases q : H b with
    | none => rfl
    | some u =>
      obtain ⟨rfl, _, _⟩ := at_a q
      rw [ha] at e; cases e
      cases d
  have kin : K.In (hidT s₁.heap H) := fun b o e => stays (KX b o e) (by
    cases q : H b with
    | none => rfl
    | some u =>
      obtain ⟨rfl, hk, _⟩ := at_a q
      rw [hk] at e; cases e)
  have mod : Mod K mg (hidT s₁.heap H) := ⟨kin, names hns, ⟨mb, names hb, hbb⟩, let ⟨mc, h1, h2⟩ := hlim; ⟨mc, names h1, h2⟩⟩
  have none_in : ∀ b : Addr, b ∉ ([] : List Addr) := fun _ z => nomatch z
  have e0 : Env0 P w K mg (hidT s₁.heap H) callerA [] s₁ H := ⟨rfl, mod, fun b o e => of_hidT e, Nat.le_of_eq (hidT_size _ _), trivial, fun b z => absurd z (none_in b), hok, .of_eq hg⟩
  refine codeAny_mono (R _ kin (names hns) s₁ H a ns hl only seq e0) fun r s' h => ?_
  match r, h with
  | .ok (.ret u), h =>
    obtain ⟨v, H', os, bare, un, hok', r', rfl⟩ := h
    obtain rfl : u = Value.bool true := r'
    refine ⟨rfl, OldK.of_keep fun b o e => ?_, os, bare⟩
    cases q : H b with
    | none => exact un.keep b o e q (none_in b) (none_in b)
    | some u =>
      obtain ⟨_, _, rfl⟩ := at_a q
      obtain ⟨e1, _⟩ := hok b _ q
      obtain ⟨e2, _⟩ := hok' b _ (un.frzs b _ _ q)
      rw [e] at e1; cases e1
      exact e2
theorem law_walk {l : PySem.W.OpenLaw} {q : Program} {loose : List Str} {XP : (Str → Option Value) → Heap → Prop} {YP : World → Heap → Prop} {d : DefRec} {K : Params → PySem.W.Frag}
    (hn : l.most = some 63) (hdf : d.params.defaults = []) (hY : ∀ (w : World) (h : Heap), YP w h → (K w.params).In h)
    (R : ∀ (w : World) (mg : Str → Option Value) (fa : Addr) (h : Heap), (K w.params).In h → h.Ns mainGlobals mg → mg d.name = some (.ref fa) → LawRuns l.prog w (K w.params) mg fa) :
    PySem.W.WalkO q loose XP YP l.row.toRowW d [] (fun f vs => PySem.call f vs) :=
  Att.attach_call hn hdf fun w s₀ s₁ mg mb fa o pm cd doc a vs ns G Y ho hd hcd hmg hobj hints hlen hg =>
    law_end (R w mg fa _ (hY w _ Y) G.T.g hmg) (hY w _ Y) G.T.g G.T.b G.T.builtins G.T.nolimit hg hobj hints hlen

/-- a pool is made -/
def spPool (K : PySem.W.Frag) : Sp := fun vs H Q _ => ∃ (a : Addr) (ns : List Int), vs = [.ref a] ∧ SqL K H a (ns.map V.int) ∧ ns.length ≤ 63 ∧
  ∀ p s t H', Same H H' → H p = none → H s = none → p ≠ s → H' p = some (.lst [.ref s, .int 0, .int 0, .int 0, .int t]) → H' s = some (.lst (ns.map V.int)) → Q (.ref p) H'
/-- the law's def, by its body: the first statement makes the pool at slot i -/
theorem law_runs {P : Program} {w : World} {K : PySem.W.Frag} {mg : Str → Option Value} {fa : Addr} {fd : FuncData} {st : Stmt} {N : List Str} {k i n : Nat} {mb : MS} (F : Fun K "law" "law" st fa fd) (S : FnScope N ["script"] (defScope st)) (hbind : L2.Binds K fd ["script"] [])
    (hN : N.length = n) (hi0 : 0 < i) (hi : i < n) (hr : Room (k + 1) callerA)
    (hb : ∀ (base : Heap), K.In base → base.Ns mainGlobals mg → ∀ (cdv : Value) (s : Shared) (H : Hp), Room k (callerA.deeper (envOfC "law" (defScope st) s.heap.objs.size fa cdv)) → ∃ (t : TE) (s0 : Stmt) (rest : List Stmt), defBody st = s0 :: rest ∧
      PS (cxOf CX0 P w K mg base N "law" (defScope st) fa cdv callerA [] s H E0).nox s0 (tAsg (tCall (spPool K) [] E0 (tCons (tVar 0) tNil)) (gName i)) ∧
      DB mb (cxOf CX0 P w K mg base N "law" (defScope st) fa cdv callerA [] s H E0).nox rest)
    (hm : (mb ((List.replicate n Sl.u).set i (.o .pool))).wp fun p => p.1 = .rt (.v (.bool true))) : LawRuns P w K mg fa := by
  intro base hK hG s H a ns hl only hS e0
  obtain ⟨oc, od, kV, doc, pm, an, cdv, ct, osl, rfl, lk, hcd⟩ := F.ex
  subst hN
  have KX : K.In s.heap := hK.keeps fun b o e => (e0.bs b o e).1
  have lim : s.heap.NoLimit := e0.mod.nolimit.keeps fun b o e => (e0.bs b o e).1
  have hpar := S.par "script" (by simp)
  refine codeAny_call_function hr.depth (KX _ _ lk) rfl S.co S.gen rfl (PySem.W.codeRec_of KX hcd) (hbind s [.ref a] KX rfl _ _ _ _ ?_)
  refine wpAny_newFunctionEnv_cells S.kind (fun y hy => ?_) fun env he s1 x => ?_
  · obtain rfl : y = (("script" : Str), Value.ref a) := List.mem_singleton.mp hy
    exact hpar.imp id fun q => ⟨q, PySem.W.cellsFrom_some _ _ _ (.inl q)⟩
  subst he
  refine ⟨lim.keeps x.toInCall.keep, codeAny_func ?_⟩
  obtain ⟨t, s0, rest, hbody, h0, h1⟩ := hb base hK hG cdv s H (hr.deeper _)
  have I : L2.Inv (cxOf CX0 P w K mg base N "law" (defScope st) fa cdv callerA [] s H E0) [] (L2.start N [.ref a]) H s1 := inv_start (ps := ["script"]) (us := [.ref a]) S hr.hd e0 rfl (.cons rfl .nil) x
  rw [hbody]
  have goal : tSeq (tAsg (tCall (spPool K) [] E0 (tCons (tVar 0) tNil)) (gName i)) (LS K mb) { nx := fun _ _ => False, rt := fun v _ => v = .bl true } (L2.start N [.ref a]) H := by
    refine ⟨.ref a, ?_, a, ns, rfl, hS, hl, fun p s' t' H' e np ns' hps hp hs => ?_⟩
    · unfold L2.start; rfl
    · have F0 : Same (upd (fun _ => none) s' (HO.lst (ns.map V.int))) H' := fun b o q => by
        by_cases hb : b = s'
        · subst hb; rw [upd_same] at q; rw [hs]; exact q
        · rw [upd_ne hb] at q; cases q
      have hiN : i < (List.replicate N.length Sl.u).length := by rw [List.length_replicate]; exact hi
      have hlen : ((L2.start N [V.ref a]).set i (some (V.ref p))).length = N.length := by
        rw [List.length_set]; unfold L2.start
        rw [List.length_append, List.length_map, List.length_replicate]
        simp; omega
      have only_i : ∀ {j : Nat} {z : Sl}, ((List.replicate N.length Sl.u).set i (.o .pool))[j]? = some z → z ≠ .u → j = i := fun {j z} q nz => by
        rw [set_get hiN] at q
        by_cases hj : j = i
        · exact hj
        · rw [if_neg hj, List.getElem?_replicate] at q
          split at q
          · cases q; exact absurd rfl nz
          · cases q
      refine ⟨upd (fun _ => none) s' (.lst (ns.map V.int)), _, ⟨F0, by rw [hlen, List.length_set, List.length_replicate], fun j d q => ?_, fun j y q => ?_, fun j l y z hjl q1 q2 => ?_⟩, T.wp_mono hm fun fl hfl σV' F' H'' s'' g'' => ?_⟩
      · have := only_i q (by intro z; cases z)
        subst this
        rw [List.getElem?_set_self hiN] at q; cases q
      · have := only_i q (by intro z; cases z)
        subst this
        rw [List.getElem?_set_self hiN] at q; cases q
        refine ⟨p, List.getElem?_set_self (by rw [List.length_set] at hlen; omega), upd_ne hps, s', ns, 0, 0, 0, t', hp, upd_same, hl, Int.le_refl 0⟩
      · exact absurd ((only_i q1 (by intro z; cases z)).trans (only_i q2 (by intro z; cases z)).symm) hjl
      · obtain ⟨f, σ'⟩ := fl
        obtain rfl : f = .rt (.v (.bool true)) := hfl
        intro v rt
        cases rt with
        | v hv => cases hv; rfl
  refine wpAny_mono ((pss_cons h0 h1.pss).nox.run [] s1 _ H _ I goal) (fun fl s' hs => ?_) fun e s' hs => hs
  match fl, hs with
  | .ret u, hs =>
    obtain ⟨v, σ', H', J, rv, q⟩ := hs
    exact ⟨v, H', J.os, J.bare, J.base, J.hok, rv, q⟩
  | .next, hs => obtain ⟨_, _, _, q⟩ := hs; exact q.elim
  | .brk, hs => obtain ⟨_, _, _, q⟩ := hs; exact q.elim
  | .cont, hs => obtain ⟨_, _, _, q⟩ := hs; exact q.elim
end DL

namespace DL
open PySem PySem.Spec PyProof.Rows L2

theorem hu150 {k : Nat} {A : Around} (hr : Room k A) : A.units + 150 < cLine := by have := hr.un; omega
theorem hu200 {k : Nat} {A : Around} (hr : Room k A) : A.units + 200 < cLine := by have := hr.un; omega
theorem lv_of {k b n : Nat} (h : k ≤ b) : k ≤ b + n := Nat.le_trans h (Nat.le_add_right _ _)
section
variable {P : Program} {w : World} {K : PySem.W.Frag} {mg : Str → Option Value} {base : Heap}
/-- a def of the text stands at the module's name x -/
structure Def (K : PySem.W.Frag) (mg : Str → Option Value) (x nm : Str) (st : Stmt) (ps : List Str) : Prop where
  ex : ∃ a fd, Fun K nm nm st a fd ∧ mg x = some (.ref a) ∧ Binds K fd ps []
theorem def_mk {h : Heap} {x nm : Str} {st : Stmt} {ps : List Str} {f : Addr} {oc : Value} {od an : Option Addr} {osl : Array (Option Value)} {kV doc pm cdv ct : Value} (X : K.In h) (G : h.Ns mainGlobals mg)
    (a : PySem.W.nsIn K mainGlobals x = some (some (.ref f))) (l : K.lookup f = some ⟨oc, od, .func (PySem.W.fnOf nm nm (defArgs st) (defBody st) (defScope st) .none kV doc pm an cdv ct), osl⟩) (c : PySem.W.codeIn K cdv nm = true) (k : PySem.W.keepIn K (.ref f) = true)
    (hb : ∀ (kV doc pm : Value) (an : Option Addr) (cdv ct : Value) (us : List Value), us.length = ps.length → bindArgs (PySem.W.fnOf nm nm (defArgs st) (defBody st) (defScope st) .none kV doc pm an cdv ct) ⟨us, []⟩ = pure (ps.zip us)) : Def K mg x nm st ps := by
  have F := fun_mk (st := st) l c k
  exact ⟨f, _, F, PySem.W.mg_of X G a, F.binds hb⟩
theorem fn_def [ShObj] {x nm : Str} {st : Stmt} {N ps : List Str} {k n : Nat} {mb : MS} (D : Def K mg x nm st ps) (S : FnScope N ps (defScope st)) (hN : N.length = n) (hps : ps.length ≤ n)
    (hb : ∀ (f : Addr) (cdv : Value) (A : Around) (outer : List PySem.Env) (s : Shared) (H : Hp) (E : XK), Room k (A.deeper (envOfC nm (defScope st) s.heap.objs.size f cdv)) → DB mb (cxOf CX0 P w K mg base N nm (defScope st) f cdv A outer s H E).nox (defBody st)) :
    Fn P w K mg base (k + 1) x ps.length (fnM n mb) := by
  obtain ⟨a, fd, F, hm, b⟩ := D.ex
  exact ⟨a, fd, ps, fn_ok F S hN hps (hb a), hm, F.kp, b⟩
theorem fn_zero [ShObj] {x nm : Str} {st : Stmt} {ps : List Str} {k : Nat} (D : Def K mg x nm st ps) : Fn P w K mg base k x ps.length fun _ => T.stop := by
  obtain ⟨a, fd, F, hm, b⟩ := D.ex
  exact ⟨a, fd, ps, ⟨fun vs H Q E h => h.1, fun A outer s H args us vs Q E _ _ _ _ h => by obtain ⟨_, _, _, _, _, _, h⟩ := h; exact h.elim⟩, hm, F.kp, b⟩
theorem glob_mk {h : Heap} {x : Str} {u : Value} {v : V} {d : DL.D} (X : K.In h) (G : h.Ns mainGlobals mg) (a : PySem.W.nsIn K mainGlobals x = some (some u)) (r : RelV v u) (hr : ∀ F, Rep K F v d) : Glob K mg x d := ⟨u, v, PySem.W.mg_of X G a, r, hr⟩
theorem glob_int {h : Heap} {x : Str} {i : Int} {t : Tok} (X : K.In h) (G : h.Ns mainGlobals mg) (a : PySem.W.nsIn K mainGlobals x = some (some (.int i t))) : Glob K mg x (.int i) := glob_mk (v := .int i) X G a ⟨t, rfl⟩ fun _ => .int i
theorem glob_str {h : Heap} {x z : Str} {t : Tok} (X : K.In h) (G : h.Ns mainGlobals mg) (a : PySem.W.nsIn K mainGlobals x = some (some (.str z t))) : Glob K mg x (.str z) := glob_mk (v := .str z) X G a ⟨t, rfl⟩ fun _ => .str z
theorem glob_ref {h : Heap} {x : Str} {p : Addr} {d : DL.D} (X : K.In h) (G : h.Ns mainGlobals mg) (a : PySem.W.nsIn K mainGlobals x = some (some (.ref p))) (r : ∀ F, Rep K F (.ref p) d) : Glob K mg x d := glob_mk (v := .ref p) X G a rfl r
/-- a written tuple of plain values -/
theorem rep_tupK {a : Addr} {dd : Option Addr} {its : Array Value} {n : Nat} {sl : Array (Option Value)} {xs : List V} {ds : List DL.D} (l : K.lookup a = some ⟨.type "tuple", dd, .seq its n, sl⟩) (hz : its.size ≤ sizeLine) (rv : Vals xs its.toList) (h : ∀ F, Reps K F xs ds) (F : Hp) : Rep K F (.ref a) (.tuple ds) :=
  .tup (.inr ⟨_, its, n, l, rfl, rfl, hz, rv⟩) (h F)
theorem ds_app' [ShObj] {X : Cx} {e : Expr} {m : M} {pos : Pos} (i : Nat) {x : Str} {p1 p2 p3 : Pos} (he : DE m X e) (hN : X.N[i]? = some x := by rfl) (hv : Vis X.env.scope x := by first | exact Or.inl rfl | exact Or.inr (Or.inl rfl) | exact Or.inr (Or.inr rfl))
    (hd : (x == ("__debug__" : Str)) = false := by decide) (hcd : (x == ("__classdict__" : Str)) = false := by decide)
    (hps : ∀ {t : TE}, PE X (.Name x p1) (tVar i) → PE X e t → PS X (.Expr (.Call (.Attribute (.Name x p1) "append" p2) [e] [] p3) pos) (tDrop (tBM X.K "list" rAppend (tVar i) (tCons t tNil))) := by
      exact fun h1 h2 => ps_expr (pe_bm PySem.F.plainAttrs_list PySem.F.slot_list_append PySem.F.type_list_append mt_append h1 (pa_cons h2 pa_nil))) :
    DS (sApp i m) X (.Expr (.Call (.Attribute (.Name x p1) "append" p2) [e] [] p3) pos) := ⟨PS.imp (hps (pe_var hN hv hd hcd) he.pe) fun _ _ _ h => sApp_ls h⟩

/-! ### the draws -/
def mDraw : List Sl → T R := fun sl => match sl with
  | [.o .pool, .v (.int n)] => if n ≤ 1000000000 then .draw n fun i => .ret (.v (.int i)) else .stop
  | _ => .stop
def mSpread : List Sl → T R := fun sl => match sl with
  | [.v (.int _)] => .ret (.v .none)
  | _ => .stop
def PL (H : Hp) (p s : Addr) (ns : List Int) (i c n t : Int) : Prop := H p = some (.lst [.ref s, .int i, .int c, .int n, .int t]) ∧ H s = some (.lst (ns.map V.int)) ∧ p ≠ s
theorem rd_at {K : PySem.W.Frag} {σ : L2.St} {H : Hp} {Q : VK} {p : Addr} {xs : List V} {j : Int} {v : V} (h0 : σ[0]? = some (some (.ref p))) (hp : H p = some (.lst xs)) (ha : atI xs j = some v) (q : Q v H) : tOp (rIxL K) (tVar 0) (tC (.int j)) σ H Q :=
  ⟨.ref p, h0, p, xs, j, v, rfl, rfl, .inl (.inl hp), ha, q⟩
theorem PL.put {H : Hp} {p s : Addr} {ns : List Int} {i c n t i' c' n' t' : Int} (h : PL H p s ns i c n t) : PL (upd H p (.lst [.ref s, .int i', .int c', .int n', .int t'])) p s ns i' c' n' t' := ⟨upd_same, by rw [upd_ne h.2.2.symm]; exact h.2.1, h.2.2⟩
/-- what stays while a pool turns: all but the pool itself -/
def But (p : Addr) (H H' : Hp) : Prop := ∀ a o, H a = some o → a ≠ p → H' a = some o
theorem But.refl {p : Addr} {H : Hp} : But p H H := fun _ _ e _ => e
theorem But.put {p : Addr} {H H' : Hp} {o : HO} (h : But p H H') : But p H (upd H' p o) := fun a u e n => by rw [upd_ne n]; exact h a u e n
theorem But.same {p : Addr} {H H' H2 : Hp} (h : But p H H') (e : Same H' H2) : But p H H2 := fun a u q n => e _ _ (h a u q n)
end
end DL

namespace DL
open PySem PySem.Spec PyProof.Rows L2
/-! ### how large, how deep -/
mutual
def wt : DL.D → Nat
  | .none => 8
  | .bool _ => 8
  | .int _ => 80
  | .str x => 10 * x.length + 8
  | .list xs => wtA xs + 8
  | .tuple xs => wtA xs + 8
  | .dict _ => 0
def wtA : List DL.D → Nat
  | [] => 0
  | x :: xs => wt x + 2 + wtA xs
end
def strOk (x : Str) : Prop := ∀ c ∈ x.cps.toList, c < 16 ^ 8
def Bd (B : Nat) : Nat → DL.D → Prop
  | 0, .list _ => False
  | 0, .tuple _ => False
  | h + 1, .list xs => ∀ x ∈ xs, Bd B h x
  | h + 1, .tuple xs => ∀ x ∈ xs, Bd B h x
  | _, .none => True
  | _, .bool _ => True
  | _, .int i => i.natAbs ≤ B
  | _, .str x => strOk x
  | _, .dict _ => False
section
variable {B h : Nat} {d : DL.D} {xs : List DL.D}
theorem Bd.none : Bd B h .none := by cases h <;> trivial
theorem Bd.bool {b : Bool} : Bd B h (.bool b) := by cases h <;> trivial
theorem Bd.int {i : Int} (q : i.natAbs ≤ B) : Bd B h (.int i) := by cases h <;> exact q
theorem Bd.str {x : Str} (q : strOk x) : Bd B h (.str x) := by cases h <;> exact q
theorem Bd.int_inv {i : Int} (q : Bd B h (.int i)) : i.natAbs ≤ B := by cases h <;> exact q
theorem Bd.str_inv {x : Str} (q : Bd B h (.str x)) : strOk x := by cases h <;> exact q
theorem Bd.tup_inv (q : Bd B h (.tuple xs)) : ∃ k, h = k + 1 ∧ ∀ x ∈ xs, Bd B k x := by
  cases h with
  | zero => exact q.elim
  | succ k => exact ⟨k, rfl, q⟩
theorem Bd.list_inv (q : Bd B h (.list xs)) : ∃ k, h = k + 1 ∧ ∀ x ∈ xs, Bd B k x := by
  cases h with
  | zero => exact q.elim
  | succ k => exact ⟨k, rfl, q⟩
theorem Bd.nodict {kvs : List (DL.D × DL.D)} (q : Bd B h (.dict kvs)) : False := by cases h <;> exact q
theorem Bd.mono {B' : Nat} (hB : B ≤ B') : ∀ {h h' : Nat} {d : DL.D}, h ≤ h' → Bd B h d → Bd B' h' d := by
  intro h
  induction h with
  | zero =>
    intro h' d _ q
    cases d with
    | none => exact .none
    | bool b => exact .bool
    | int i => exact .int (Nat.le_trans q.int_inv hB)
    | str x => exact .str q.str_inv
    | list xs => exact q.elim
    | tuple xs => exact q.elim
    | dict kvs => exact q.elim
  | succ k ih =>
    intro h' d hh q
    cases d with
    | none => exact .none
    | bool b => exact .bool
    | int i => exact .int (Nat.le_trans q.int_inv hB)
    | str x => exact .str q.str_inv
    | list xs =>
      cases h' with
      | zero => omega
      | succ j => exact fun x hx => ih (by omega) (q x hx)
    | tuple xs =>
      cases h' with
      | zero => omega
      | succ j => exact fun x hx => ih (by omega) (q x hx)
    | dict kvs => exact q.elim
theorem wtA_append : ∀ xs ys : List DL.D, wtA (xs ++ ys) = wtA xs + wtA ys
  | [], ys => by simp [wtA]
  | x :: xs, ys => by rw [List.cons_append, wtA, wtA, wtA_append xs ys]; omega
theorem wtA_take (n : Nat) (xs : List DL.D) : wtA (xs.take n) ≤ wtA xs := by
  have := wtA_append (xs.take n) (xs.drop n)
  rw [List.take_append_drop] at this; omega
theorem wtA_drop (n : Nat) (xs : List DL.D) : wtA (xs.drop n) ≤ wtA xs := by
  have := wtA_append (xs.take n) (xs.drop n)
  rw [List.take_append_drop] at this; omega
theorem wtA_len : ∀ xs : List DL.D, 2 * xs.length ≤ wtA xs
  | [] => Nat.zero_le _
  | x :: xs => by rw [wtA, List.length_cons]; have := wtA_len xs; omega
theorem wtA_mem {x : DL.D} : ∀ {xs : List DL.D}, x ∈ xs → wt x + 2 ≤ wtA xs
  | y :: xs, hx => by
    rw [wtA]
    rcases List.mem_cons.mp hx with rfl | h
    · omega
    · have := wtA_mem h; omega
theorem wtA_set (y : DL.D) : ∀ (xs : List DL.D) (i : Nat), wtA (xs.set i y) ≤ wtA xs + wt y
  | [], _ => by rw [List.set_nil]; omega
  | x :: xs, 0 => by rw [List.set_cons_zero, wtA, wtA]; omega
  | x :: xs, i + 1 => by rw [List.set_cons_succ, wtA, wtA]; have := wtA_set y xs i; omega
/-- a part cut out and another put in -/
theorem wtA_cut {x : DL.D} {i : Nat} (e : xs[i]? = some x) (ys : List DL.D) : wtA (xs.take i ++ ys ++ xs.drop (i + 1)) + wt x + 2 = wtA xs + wtA ys := by
  have hi := (List.getElem?_eq_some_iff.mp e).1
  have e1 : xs = xs.take i ++ (x :: xs.drop (i + 1)) := by
    have : xs.drop i = x :: xs.drop (i + 1) := by
      rw [List.drop_eq_getElem_cons hi]; congr 1
      exact Option.some.inj ((List.getElem?_eq_getElem hi).symm.trans e)
    rw [← this, List.take_append_drop]
  have e2 : wtA xs = wtA (xs.take i) + (wt x + 2 + wtA (xs.drop (i + 1))) := by
    conv => lhs; rw [e1]
    rw [wtA_append, wtA]
  rw [wtA_append, wtA_append, e2]; omega
/-! ### what repr gives of these -/
theorem int_len {i : Int} (hi : i.natAbs < 2 ^ 64) : (Str.ofString (toString i)).length ≤ 65 := by
  rw [PySem.ofString_length]
  cases i with
  | ofNat m =>
    have e : toString (Int.ofNat m) = Nat.repr m := rfl
    rw [e]
    exact Nat.le_succ_of_le (nat_repr_length_le (by decide) hi)
  | negSucc m =>
    have e : toString (Int.negSucc m) = "-" ++ Nat.repr (m + 1) := rfl
    rw [e, String.length_append]
    have e1 : "-".length = 1 := rfl
    have e2 := nat_repr_length_le (k := 64) (by decide) (show m + 1 < 2 ^ 64 from hi)
    omega
theorem listText_le (ts : List Str) : (listText ts).length ≤ piled ts + 2 := by
  cases ts with
  | nil => decide
  | cons t r =>
    have h := textFrom_length_pos r 1 (("[" : Str) ++ (if (0 : Nat) > 0 then ", " else "" : String) ++ t) (Nat.succ_pos 0)
    have e : ((("[" : Str) ++ (if (0 : Nat) > 0 then ", " else "" : String) ++ t)).length = 1 + t.length := by
      rw [strLen_append, strLen_append]; rfl
    have hX : (listText (t :: r)).length = (textFrom 0 "[" (t :: r)).length + 1 := by
      show (textFrom 0 "[" (t :: r) ++ "]").length = _
      rw [strLen_append]; rfl
    have hY : (textFrom 0 "[" (t :: r)).length = (textFrom 1 (("[" : Str) ++ (if (0 : Nat) > 0 then ", " else "" : String) ++ t) r).length := rfl
    rw [hX, hY, h, e, piled_cons]; omega
theorem tupleText_le (ts : List Str) : (tupleText ts).length ≤ piled ts + 4 := by
  unfold tupleText
  rw [strLen_append, strLen_append]
  have e1 : ((("(" : String) : Str)).length = 1 := rfl
  have e3 : (((if ts.length == 1 then ",)" else ")" : String) : Str)).length ≤ 2 := by split <;> decide
  rw [e1]
  by_cases h : ts = []
  · subst h
    have : (Str.join ", " ([] : List Str)).length = 0 := rfl
    omega
  · have := join_length_add ts h
    omega
theorem shown_le (hB : B < 2 ^ 64) : ∀ {h : Nat} {d : DL.D}, Bd B h d → d.shown.length ≤ wt d := by
  have all : ∀ {P : DL.D → Prop} (_ : ∀ x, P x → x.shown.length ≤ wt x) (xs : List DL.D), (∀ x ∈ xs, P x) → piled (PyData.shownAll xs) ≤ wtA xs := by
    intro P hP xs
    induction xs with
    | nil => intro _; rw [PyData.shownAll, piled_nil]; exact Nat.zero_le _
    | cons x xs ih =>
      intro hx
      rw [PyData.shownAll, piled_cons, wtA]
      have h1 := hP x (hx x (List.mem_cons_self ..))
      have h2 := ih fun y hy => hx y (List.mem_cons_of_mem _ hy)
      omega
  have atom : ∀ {h : Nat} {d : DL.D}, Bd B h d → (∀ xs, d ≠ .list xs) → (∀ xs, d ≠ .tuple xs) → d.shown.length ≤ wt d := by
    intro h d q n1 n2
    cases d with
    | none => rw [PyData.shown, wt]; decide
    | bool b => rw [PyData.shown, wt]; cases b <;> decide
    | int i =>
      rw [PyData.shown, wt]
      have := int_len (Nat.lt_of_le_of_lt q.int_inv hB)
      exact Nat.le_trans this (by decide)
    | str x =>
      rw [PyData.shown, wt]
      have := PySem.StrLaws.reprText_len x q.str_inv
      omega
    | list xs => exact absurd rfl (n1 xs)
    | tuple xs => exact absurd rfl (n2 xs)
    | dict kvs => exact q.nodict.elim
  intro h
  induction h with
  | zero =>
    intro d q
    exact atom q (fun xs e => by subst e; exact q) (fun xs e => by subst e; exact q)
  | succ k ih =>
    intro d q
    cases d with
    | list xs =>
      rw [PyData.shown, wt]
      have := all (P := Bd B k) (fun x hx => ih hx) xs q
      have := listText_le (PyData.shownAll xs)
      omega
    | tuple xs =>
      rw [PyData.shown, wt]
      have := all (P := Bd B k) (fun x hx => ih hx) xs q
      have := tupleText_le (PyData.shownAll xs)
      omega
    | _ => exact atom q (fun xs e => by cases e) (fun xs e => by cases e)
theorem log2_lt {i : Int} (hi : i.natAbs < 2 ^ 64) : i.natAbs.log2 < 1920 := by
  by_cases h0 : i.natAbs = 0
  · rw [h0]; decide
  · exact (Nat.log2_lt h0).mpr (Nat.lt_of_lt_of_le hi (Nat.pow_le_pow_right (by decide) (by decide)))
theorem Bd.ok (hB : B < 2 ^ 64) : ∀ {h : Nat} {d : DL.D}, Bd B h d → d.showable = true ∧ d.depth ≤ h ∧ d.hasDict = false := by
  intro h
  have all : ∀ {k : Nat} (ih : ∀ {d : DL.D}, Bd B k d → d.showable = true ∧ d.depth ≤ k ∧ d.hasDict = false) (xs : List DL.D), (∀ x ∈ xs, Bd B k x) → PyData.showableAll xs = true ∧ PyData.depthAll xs ≤ k ∧ PyData.hasDictAll xs = false := by
    intro k ih xs
    induction xs with
    | nil => intro _; exact ⟨rfl, Nat.zero_le _, rfl⟩
    | cons x xs ih2 =>
      intro hx
      obtain ⟨a1, a2, a3⟩ := ih (hx x (List.mem_cons_self ..))
      obtain ⟨b1, b2, b3⟩ := ih2 fun y hy => hx y (List.mem_cons_of_mem _ hy)
      refine ⟨?_, ?_, ?_⟩
      · rw [PyData.showableAll, a1, b1]; rfl
      · rw [PyData.depthAll]; omega
      · rw [PyData.hasDictAll, a3, b3]; rfl
  induction h with
  | zero =>
    intro d q
    cases d with
    | none => exact ⟨rfl, Nat.le_refl _, rfl⟩
    | bool b => exact ⟨rfl, Nat.le_refl _, rfl⟩
    | int i => exact ⟨by rw [PyData.showable]; exact decide_eq_true (log2_lt (Nat.lt_of_le_of_lt q.int_inv hB)), Nat.le_refl _, rfl⟩
    | str x => exact ⟨rfl, Nat.le_refl _, rfl⟩
    | list xs => exact q.elim
    | tuple xs => exact q.elim
    | dict kvs => exact q.elim
  | succ k ih =>
    intro d q
    cases d with
    | none => exact ⟨rfl, Nat.zero_le _, rfl⟩
    | bool b => exact ⟨rfl, Nat.zero_le _, rfl⟩
    | int i => exact ⟨by rw [PyData.showable]; exact decide_eq_true (log2_lt (Nat.lt_of_le_of_lt q.int_inv hB)), Nat.zero_le _, rfl⟩
    | str x => exact ⟨rfl, Nat.zero_le _, rfl⟩
    | list xs =>
      obtain ⟨a, b, c⟩ := all ih xs q
      exact ⟨by rw [PyData.showable]; exact a, by rw [PyData.depth]; omega, by rw [PyData.hasDict]; exact c⟩
    | tuple xs =>
      obtain ⟨a, b, c⟩ := all ih xs q
      exact ⟨by rw [PyData.showable]; exact a, by rw [PyData.depth]; omega, by rw [PyData.hasDict]; exact c⟩
    | dict kvs => exact q.elim
theorem reprOk_of {h : Nat} {d : DL.D} (hB : B < 2 ^ 64) (q : Bd B h d) (hh : h ≤ 150) (hw : wt d ≤ 100000) : reprOk d = true := by
  obtain ⟨a, b, c⟩ := q.ok hB
  have e := shown_le hB q
  unfold reprOk
  rw [a, decide_eq_true (Nat.le_trans e hw), decide_eq_true (Nat.le_trans b hh)]
  cases d with
  | dict kvs => exact q.nodict.elim
  | _ => show (true && true && true && !_) = true; rw [c]; rfl
end
end DL

namespace DL
open PySem PySem.Spec PyProof.Rows L2
namespace Sc
/- 0 -/
def m_law_is_integer : List Sl → T R := fnM 1 (sRet (mAndV (mIsi "int" (mVar 0)) (mNotV (mIsi "bool" (mVar 0)))))

/- 0, 1, 2 -/
def m_law_same : Nat → List Sl → T R
  | 0 => fun _ => .stop
  | n + 1 => fnM 3 (sSeq (sIf (tOrM (tOf (mIsi "tuple" (mVar 1))) (tOf (mIsi "list" (mVar 1)))) (sSeq (sIf (tOrM (tOf (mBin dNe (mIsi "tuple" (mVar 1)) (mIsi "tuple" (mVar 0)))) (tOrM (tOf (mBin dNe (mIsi "list" (mVar 1)) (mIsi "list" (mVar 0)))) (tOf (mBin dNe (mB bLen (mCons (mVar 0) mNil)) (mB bLen (mCons (mVar 1) mNil)))))) (sRet (mC (.bool false))) sNext)
    (sRet (mBin dEq (mB bLen (mCons (mLc (iRngM rng1 (mCons (mB bLen (mCons (mVar 1) mNil)) mNil)) (gSet 2) (tNotM (tOf (mCall (m_law_same n) (mCons (mBin dIx (mVar 0) (mVar 2)) (mCons (mBin dIx (mVar 1) (mVar 2)) mNil))))) (mVar 2) [2]) mNil)) (mC (.int 0))))) sNext)
    (sSeq (sIf (tOf (mBin dIs (mVar 1) (mC .none))) (sRet (mBin dIs (mVar 0) (mC .none))) sNext)
    (sSeq (sIf (tOrM (tOf (mIsi "bool" (mVar 1))) (tOf (mIsi "bool" (mVar 0)))) (sRet (mAndV (mIsi "bool" (mVar 1)) (mAndV (mIsi "bool" (mVar 0)) (mBin dEq (mVar 0) (mVar 1))))) sNext)
    (sSeq (sIf (tOf (mIsi "int" (mVar 1))) (sRet (mAndV (mIsi "int" (mVar 0)) (mBin dEq (mVar 0) (mVar 1)))) sNext)
    (sRet (mAndV (mIsi "str" (mVar 0)) (mAndV (mIsi "str" (mVar 1)) (mBin dEq (mVar 0) (mVar 1)))))))))

/- 0, 1, 2, 3 -/
def m_law_spread : List Sl → T R := fnM 4 (sSeq (sSet 1 (mBin dMod (mB bInt (mCons (mVar 0) mNil)) (mC (.int 2147483647))))
    (sSeq (sSet 2 (mC (.int 1)))
    (sSeq (sFor (iRngM rng1 (mCons (mC (.int 4)) mNil)) (gSet 3) (sSeq (sSet 1 (mBin dMod (mB bInt (mCons (mBin dAdd (mBin dAdd (mBin dMul (mVar 1) (mC (.int 48271))) (mC (.int 12345))) (mVar 3)) mNil)) (mC (.int 2147483647))))
    (sSet 2 (mBin dAdd (mBin dMul (mVar 2) (mC (.int 2147483647))) (mVar 1)))))
    (sRet (mVar 2)))))

/- 0, 1, 2, 3, 4, 5 -/
def m_law_bent : Nat → List Sl → T R
  | 0 => fun _ => .stop
  | n + 1 => fnM 6 (sSeq (sIf (tAndM (tOf (mIsi "tuple" (mVar 1))) (tAndM (tOf (mBin dGt (mB bLen (mCons (mVar 1) mNil)) (mC (.int 0)))) (tOf (mBin dGt (mCall mDraw (mCons (mVar 0) (mCons (mC (.int 4)) mNil))) (mC (.int 0)))))) (sSeq (sSet 2 (mCall mDraw (mCons (mVar 0) (mCons (mB bLen (mCons (mVar 1) mNil)) mNil))))
    (sRet (mBin dAdd (mBin dAdd (mSl (mVar 1) oNone (oSome (mVar 2))) (mTup (mCons (mCall (m_law_bent n) (mCons (mVar 0) (mCons (mBin dIx (mVar 1) (mVar 2)) mNil))) mNil))) (mSl (mVar 1) (oSome (mBin dAdd (mVar 2) (mC (.int 1)))) oNone)))) sNext)
    (sSeq (sSet 3 (mCall mDraw (mCons (mVar 0) (mCons (mC (.int 9)) mNil))))
    (sSeq (sIf (tOf (mBin dEq (mVar 3) (mC (.int 0)))) (sRet (mBin dIx (mTup (mCons (mC (.str "x")) (mCons (mC (.bool true)) (mCons (mTup mNil) (mCons (mC (.int 0)) (mCons (mUn dNeg (mC (.int 1))) (mCons (mC .none) (mCons (mC (.bool false)) (mCons (mLst mNil) (mCons (mC (.str "in")) (mCons (mC (.int 1)) mNil))))))))))) (mCall mDraw (mCons (mVar 0) (mCons (mC (.int 10)) mNil))))) sNext)
    (sSeq (sIf (tOf (mCall m_law_is_integer (mCons (mVar 1) mNil))) (sRet (mBin dAdd (mVar 1) (mBin dIx (mTup (mCons (mC (.int 1)) (mCons (mUn dNeg (mC (.int 1))) (mCons (mC (.int 2)) (mCons (mC (.int 0)) mNil))))) (mCall mDraw (mCons (mVar 0) (mCons (mC (.int 4)) mNil)))))) sNext)
    (sSeq (sIf (tOf (mIsi "str" (mVar 1))) (sRet (mBin dIx (mTup (mCons (mBin dAdd (mVar 1) (mC (.str "a"))) (mCons (mSl (mVar 1) (oSome (mC (.int 1))) oNone) (mCons (mBin dAdd (mVar 1) (mC (.str "A"))) (mCons (mBin dAdd (mVar 1) (mC (.str " "))) (mCons (mSl (mVar 1) oNone (oSome (mC (.int 1)))) mNil)))))) (mCall mDraw (mCons (mVar 0) (mCons (mC (.int 5)) mNil))))) sNext)
    (sSeq (sIf (tOrM (tNotM (tOf (mIsi "tuple" (mVar 1)))) (tOf (mBin dEq (mB bLen (mCons (mVar 1) mNil)) (mC (.int 0))))) (sRet (mIf (tOf (mBin dLt (mVar 3) (mC (.int 5)))) (mTup (mCons (mVar 1) (mCons (mC (.int 0)) mNil))) (mTup mNil))) sNext)
    (sSeq (sSet 2 (mCall mDraw (mCons (mVar 0) (mCons (mB bLen (mCons (mVar 1) mNil)) mNil))))
    (sSeq (sIf (tOf (mBin dLt (mVar 3) (mC (.int 3)))) (sRet (mBin dAdd (mSl (mVar 1) oNone (oSome (mVar 2))) (mSl (mVar 1) (oSome (mBin dAdd (mVar 2) (mC (.int 1)))) oNone))) sNext)
    (sSeq (sIf (tOf (mBin dLt (mVar 3) (mC (.int 5)))) (sRet (mBin dAdd (mBin dAdd (mSl (mVar 1) oNone (oSome (mVar 2))) (mTup (mCons (mBin dIx (mVar 1) (mVar 2)) mNil))) (mSl (mVar 1) (oSome (mVar 2)) oNone))) sNext)
    (sSeq (sIf (tOf (mBin dEq (mVar 3) (mC (.int 5)))) (sRet (mB bList (mCons (mVar 1) mNil))) sNext)
    (sSeq (sSet 4 (mCall mDraw (mCons (mVar 0) (mCons (mB bLen (mCons (mVar 1) mNil)) mNil))))
    (sSeq (sSet 5 (mB bList (mCons (mVar 1) mNil)))
    (sSeq (sPut 5 (mVar 2) (mBin dIx (mVar 1) (mVar 4)))
    (sSeq (sPut 5 (mVar 4) (mBin dIx (mVar 1) (mVar 2)))
    (sRet (mB bTuple (mCons (mVar 5) mNil)))))))))))))))))

/- 0, 1 -/
def m_law_booled : Nat → List Sl → T R
  | 0 => fun _ => .stop
  | n + 1 => fnM 2 (sSeq (sIf (tOf (mIsi "tuple" (mVar 0))) (sRet (mB bTuple (mCons (mLc (iSeq (mVar 0)) (gSet 1) tYesM (mCall (m_law_booled n) (mCons (mVar 1) mNil)) [1]) mNil))) sNext)
    (sRet (mIf (tAndM (tOf (mCall m_law_is_integer (mCons (mVar 0) mNil))) (tOf (mBin dIn (mVar 0) (mTup (mCons (mC (.int 0)) (mCons (mC (.int 1)) mNil)))))) (mBin dEq (mVar 0) (mC (.int 1))) (mVar 0))))

/- 0, 1, 2 -/
def m_law_listed : Nat → List Sl → T R
  | 0 => fun _ => .stop
  | n + 1 => fnM 3 (sSeq (sIf (tNotM (tOf (mIsi "tuple" (mVar 0)))) (sRet (mVar 0)) sNext)
    (sSeq (sIf (tOf (mBin dEq (mVar 1) (mC (.int 0)))) (sRet (mB bList (mCons (mVar 0) mNil))) sNext)
    (sRet (mB bTuple (mCons (mLc (iSeq (mVar 0)) (gSet 2) tYesM (mCall (m_law_listed n) (mCons (mVar 2) (mCons (mBin dSub (mVar 1) (mC (.int 1))) mNil))) [2]) mNil)))))

/- 0, 1 -/
def m_law_odd_values : List Sl → T R := fnM 2 (sSeq (sSet 0 (mTup mNil))
    (sSeq (sFor (iRngM rng1 (mCons (mC (.int 90)) mNil)) (gSet 1) (sSet 0 (mTup (mCons (mVar 0) mNil))))
    (sRet (mLst (mCons (mVar 0) (mCons (mTup (mCons (mC (.str "plan")) (mCons (mVar 0) (mCons (mVar 0) mNil)))) (mCons (mC .none) (mCons (mC (.int 0)) (mCons (mC (.int 1)) (mCons (mC (.bool true)) (mCons (mC (.bool false)) (mCons (mC (.str "")) (mCons (mC (.str "x")) (mCons (mTup mNil) (mCons (mLst mNil) (mCons mDic0 (mCons (mTup (mCons (mTup mNil) mNil)) (mCons (mTup (mCons (mTup mNil) (mCons (mTup mNil) mNil))) (mCons (mTup (mCons (mC (.int 0)) mNil)) (mCons (mTup (mCons (mC (.int 1)) (mCons (mC (.int 2)) mNil))) (mCons (mTup (mCons (mC (.str "x")) mNil)) (mCons (mTup (mCons (mLst mNil) mNil)) (mCons (mDic1 "a" 1) (mCons (mTup (mCons (mC .none) mNil)) (mCons (mTup (mCons (mTup (mCons (mTup mNil) mNil)) mNil)) (mCons (mUn dNeg (mC (.int 1))) mNil))))))))))))))))))))))))))

/- 0, 1, 2, 3, 4 -/
def m_law_is_row : List Sl → T R := fnM 5 (sSeq (sIf (tOrM (tNotM (tOf (mIsi "tuple" (mVar 0)))) (tAndM (tOf (mBin dIsNot (mVar 1) (mC .none))) (tOf (mBin dNe (mB bLen (mCons (mVar 0) mNil)) (mVar 1))))) (sRet (mC (.bool false))) sNext)
    (sRet (mBin dEq (mB bLen (mCons (mLc (iSeq (mVar 0)) (gSet 4) (tOrM (tNotM (tOf (mCall m_law_is_integer (mCons (mVar 4) mNil)))) (tOrM (tOf (mBin dLt (mVar 4) (mVar 2))) (tOf (mBin dGt (mVar 4) (mVar 3))))) (mVar 4) [4]) mNil)) (mC (.int 0)))))

/- 0, 1, 2 -/
def m_law_is_number : List Sl → T R := fnM 3 (sRet (mAndV (mCall m_law_is_integer (mCons (mVar 0) mNil)) (mAndV (mBin dLe (mVar 1) (mVar 0)) (mBin dLe (mVar 0) (mVar 2)))))

/- 0, 1, 2 -/
def m_law_word : List Sl → T R := fnM 3 (sRet (mAndV (mIsi "tuple" (mVar 0)) (mAndV (mBin dEq (mB bLen (mCons (mVar 0) mNil)) (mVar 2)) (mAndV (mIsi "str" (mBin dIx (mVar 0) (mC (.int 0)))) (mBin dEq (mBin dIx (mVar 0) (mC (.int 0))) (mVar 1))))))

end Sc
open Sc
/-! ### reading what a text does -/
def tyIs (T : String) (d : DL.D) : Bool := isiD T d
theorem isi_none : isiD "tuple" .none = false ∧ isiD "list" .none = false ∧ isiD "int" .none = false ∧ isiD "bool" .none = false ∧ isiD "str" .none = false := by decide
theorem isi_bool {b : Bool} : isiD "tuple" (.bool b) = false ∧ isiD "list" (.bool b) = false ∧ isiD "int" (.bool b) = true ∧ isiD "bool" (.bool b) = true ∧ isiD "str" (.bool b) = false := by cases b <;> decide
theorem isi_int {i : Int} : isiD "tuple" (.int i) = false ∧ isiD "list" (.int i) = false ∧ isiD "int" (.int i) = true ∧ isiD "bool" (.int i) = false ∧ isiD "str" (.int i) = false := ⟨rfl, rfl, rfl, rfl, rfl⟩
theorem isi_str {x : Str} : isiD "tuple" (.str x) = false ∧ isiD "list" (.str x) = false ∧ isiD "int" (.str x) = false ∧ isiD "bool" (.str x) = false ∧ isiD "str" (.str x) = true := ⟨rfl, rfl, rfl, rfl, rfl⟩
theorem isi_list {xs : List DL.D} : isiD "tuple" (.list xs) = false ∧ isiD "list" (.list xs) = true ∧ isiD "int" (.list xs) = false ∧ isiD "bool" (.list xs) = false ∧ isiD "str" (.list xs) = false := ⟨rfl, rfl, rfl, rfl, rfl⟩
theorem isi_tuple {xs : List DL.D} : isiD "tuple" (.tuple xs) = true ∧ isiD "list" (.tuple xs) = false ∧ isiD "int" (.tuple xs) = false ∧ isiD "bool" (.tuple xs) = false ∧ isiD "str" (.tuple xs) = false := ⟨rfl, rfl, rfl, rfl, rfl⟩
theorem isi_dict {xs : List (DL.D × DL.D)} : isiD "tuple" (.dict xs) = false ∧ isiD "list" (.dict xs) = false ∧ isiD "int" (.dict xs) = false ∧ isiD "bool" (.dict xs) = false ∧ isiD "str" (.dict xs) = false := ⟨rfl, rfl, rfl, rfl, rfl⟩

section
variable {α β : Type} {x : Sl} {r : List Sl} {σ : DL.Env} {m ma mb mc : M} {mt mu : MT} {ms : MA} {a b c : MS} {d : DL.D}
def kP (k : List Nat) : R → T (R × List Nat) := fun t => .ret (t, k)
def kB4 (f : DL.D → DL.D → T R) (y : DL.D) (k : List Nat) : DL.D → T (R × List Nat) := fun z => (f y z).bind (kP k)
def kB3 (f : DL.D → DL.D → T R) (σ : DL.Env) (q : R) (k : List Nat) : DL.D → T (R × List Nat) := fun y => (look σ q).bind (kB4 f y k)
def kB2 (f : DL.D → DL.D → T R) (σ : DL.Env) (p : R) (k : List Nat) : R × List Nat → T (R × List Nat) := fun q => (look (frz σ q.2) p).bind (kB3 f (frz σ q.2) q.1 (k ++ q.2))
def kB1 (f : DL.D → DL.D → T R) (mb : M) (σ : DL.Env) : R × List Nat → T (R × List Nat) := fun p => (mb (frz σ p.2)).bind (kB2 f (frz σ p.2) p.1 p.2)
theorem e_mC : mC d σ = .ret (.v d, []) := rfl
theorem e_mVar {i : Nat} : mVar i (x :: r) = match (x :: r)[i]? with | some (.v d) => .ret (.v d, []) | some (.o _) => .ret (.s i, []) | _ => .stop := rfl
theorem e_mBin {f : DL.D → DL.D → T R} : mBin f ma mb (x :: r) = (ma (x :: r)).bind (kB1 f mb (x :: r)) := rfl
theorem e_kB1 {f : DL.D → DL.D → T R} {p : R} {k : List Nat} : kB1 f mb σ (p, k) = (mb (frz σ k)).bind (kB2 f (frz σ k) p k) := rfl
theorem e_kB2 {f : DL.D → DL.D → T R} {p q : R} {k l : List Nat} : kB2 f σ p k (q, l) = (look (frz σ l) p).bind (kB3 f (frz σ l) q (k ++ l)) := rfl
theorem e_kB3 {f : DL.D → DL.D → T R} {q : R} {k : List Nat} {y : DL.D} : kB3 f σ q k y = (look σ q).bind (kB4 f y k) := rfl
theorem e_kB4 {f : DL.D → DL.D → T R} {k : List Nat} {y z : DL.D} : kB4 f y k z = (f y z).bind (kP k) := rfl
theorem e_kP {k : List Nat} {t : R} : kP k t = .ret (t, k) := rfl
def kU2 (f : DL.D → T R) (k : List Nat) : DL.D → T (R × List Nat) := fun y => (f y).bind (kP k)
def kU1 (f : DL.D → T R) (σ : DL.Env) : R × List Nat → T (R × List Nat) := fun p => (look (frz σ p.2) p.1).bind (kU2 f p.2)
theorem e_mUn {f : DL.D → T R} : mUn f ma (x :: r) = (ma (x :: r)).bind (kU1 f (x :: r)) := rfl
theorem e_kU1 {f : DL.D → T R} {p : R} {k : List Nat} : kU1 f σ (p, k) = (look (frz σ k) p).bind (kU2 f k) := rfl
theorem e_kU2 {f : DL.D → T R} {k : List Nat} {y : DL.D} : kU2 f k y = (f y).bind (kP k) := rfl
theorem e_mNil : mNil σ = .ret ([], []) := rfl
def kC2 (p : R) (k : List Nat) : List R × List Nat → T (List R × List Nat) := fun q => .ret (p :: q.1, k ++ q.2)
def kC1 (ms : MA) (σ : DL.Env) : R × List Nat → T (List R × List Nat) := fun p => (ms (frz σ p.2)).bind (kC2 p.1 p.2)
theorem e_mCons : mCons ma ms (x :: r) = (ma (x :: r)).bind (kC1 ms (x :: r)) := rfl
theorem e_kC1 {p : R} {k : List Nat} : kC1 ms σ (p, k) = (ms (frz σ k)).bind (kC2 p k) := rfl
theorem e_kC2 {p : R} {k l : List Nat} {q : List R} : kC2 p k (q, l) = .ret (p :: q, k ++ l) := rfl
def kA2 (f : List DL.D → T R) (k : List Nat) : List DL.D → T (R × List Nat) := fun ds => (f ds).bind (kP k)
def kA1 (f : List DL.D → T R) (σ : DL.Env) : List R × List Nat → T (R × List Nat) := fun p => (looks (frz σ p.2) p.1).bind (kA2 f p.2)
theorem e_mB {f : List DL.D → T R} : mB f ms (x :: r) = (ms (x :: r)).bind (kA1 f (x :: r)) := rfl
theorem e_kA1 {f : List DL.D → T R} {p : List R} {k : List Nat} : kA1 f σ (p, k) = (looks (frz σ k) p).bind (kA2 f k) := rfl
theorem e_kA2 {f : List DL.D → T R} {k : List Nat} {ds : List DL.D} : kA2 f k ds = (f ds).bind (kP k) := rfl
def kT1 (σ : DL.Env) : List R × List Nat → T (R × List Nat) := fun p => (looks (frz σ p.2) p.1).bind fun ds => chk ds.length (.ret (.v (.tuple ds), p.2 ++ slotsAll p.1))
def kL1 (σ : DL.Env) : List R × List Nat → T (R × List Nat) := fun p => (looks (frz σ p.2) p.1).bind fun ds => chk ds.length (.ret (.o (.lst ds), p.2 ++ slotsAll p.1))
theorem e_mTup : mTup ms (x :: r) = (ms (x :: r)).bind (kT1 (x :: r)) := rfl
theorem e_mLst : mLst ms (x :: r) = (ms (x :: r)).bind (kL1 (x :: r)) := rfl
theorem e_kT1 {p : List R} {k : List Nat} : kT1 σ (p, k) = (looks (frz σ k) p).bind fun ds => chk ds.length (.ret (.v (.tuple ds), k ++ slotsAll p)) := rfl
theorem e_kL1 {p : List R} {k : List Nat} : kL1 σ (p, k) = (looks (frz σ k) p).bind fun ds => chk ds.length (.ret (.o (.lst ds), k ++ slotsAll p)) := rfl
def kJ (k : List Nat) : R × List Nat → T (R × List Nat) := fun q => .ret (q.1, k ++ q.2)
def kJb (k : List Nat) : Bool × List Nat → T (Bool × List Nat) := fun q => .ret (q.1, k ++ q.2)
theorem e_kJ {k l : List Nat} {q : R} : kJ k (q, l) = .ret (q, k ++ l) := rfl
theorem e_kJb {k l : List Nat} {q : Bool} : kJb k (q, l) = .ret (q, k ++ l) := rfl
def kI1 (ma mb : M) (σ : DL.Env) : Bool × List Nat → T (R × List Nat) := fun p => if p.1 = true then (ma (frz σ p.2)).bind (kJ p.2) else (mb (frz σ p.2)).bind (kJ p.2)
theorem e_mIf : mIf mt ma mb (x :: r) = (mt (x :: r)).bind (kI1 ma mb (x :: r)) := rfl
theorem e_kI1 {p : Bool} {k : List Nat} : kI1 ma mb σ (p, k) = if p = true then (ma (frz σ k)).bind (kJ k) else (mb (frz σ k)).bind (kJ k) := rfl
def kV2 (mb : M) (σ : DL.Env) (k : List Nat) : Bool → T (R × List Nat) := fun z => if z = true then (mb (frz σ k)).bind (kJ k) else .ret (.v (.bool false), k)
def kV1 (mb : M) (σ : DL.Env) : R × List Nat → T (R × List Nat) := fun p => (toB p.1).bind (kV2 mb σ p.2)
theorem e_mAndV : mAndV ma mb (x :: r) = (ma (x :: r)).bind (kV1 mb (x :: r)) := rfl
theorem e_kV1 {p : R} {k : List Nat} : kV1 mb σ (p, k) = (toB p).bind (kV2 mb σ k) := rfl
theorem e_kV2 {z : Bool} {k : List Nat} : kV2 mb σ k z = if z = true then (mb (frz σ k)).bind (kJ k) else .ret (.v (.bool false), k) := rfl
def kO2 (mb : M) (σ : DL.Env) (k : List Nat) : Bool → T (R × List Nat) := fun z => if z = true then .ret (.v (.bool true), k) else (mb (frz σ k)).bind (kJ k)
def kO1 (mb : M) (σ : DL.Env) : R × List Nat → T (R × List Nat) := fun p => (toB p.1).bind (kO2 mb σ p.2)
theorem e_mOrV : mOrV ma mb (x :: r) = (ma (x :: r)).bind (kO1 mb (x :: r)) := rfl
theorem e_kO1 {p : R} {k : List Nat} : kO1 mb σ (p, k) = (toB p).bind (kO2 mb σ k) := rfl
theorem e_kO2 {z : Bool} {k : List Nat} : kO2 mb σ k z = if z = true then .ret (.v (.bool true), k) else (mb (frz σ k)).bind (kJ k) := rfl
def kN1 : R × List Nat → T (R × List Nat) := fun p => (toB p.1).bind fun k => .ret (.v (.bool (!k)), p.2)
theorem e_mNotV : mNotV ma (x :: r) = (ma (x :: r)).bind kN1 := rfl
theorem e_kN1 {p : R} {l : List Nat} : kN1 (p, l) = (toB p).bind fun k => .ret (.v (.bool (!k)), l) := rfl
def kQ1 : R × List Nat → T (Bool × List Nat) := fun p => (toB p.1).bind fun k => .ret (k, p.2)
theorem e_tOf : tOf m (x :: r) = (m (x :: r)).bind kQ1 := rfl
theorem e_kQ1 {p : R} {l : List Nat} : kQ1 (p, l) = (toB p).bind fun k => .ret (k, l) := rfl
def kAn (mu : MT) (σ : DL.Env) : Bool × List Nat → T (Bool × List Nat) := fun p => if p.1 = true then (mu (frz σ p.2)).bind (kJb p.2) else .ret (false, p.2)
def kOr (mu : MT) (σ : DL.Env) : Bool × List Nat → T (Bool × List Nat) := fun p => if p.1 = true then .ret (true, p.2) else (mu (frz σ p.2)).bind (kJb p.2)
theorem e_tAndM : tAndM mt mu (x :: r) = (mt (x :: r)).bind (kAn mu (x :: r)) := rfl
theorem e_tOrM : tOrM mt mu (x :: r) = (mt (x :: r)).bind (kOr mu (x :: r)) := rfl
theorem e_kAn {p : Bool} {k : List Nat} : kAn mu σ (p, k) = if p = true then (mu (frz σ k)).bind (kJb k) else .ret (false, k) := rfl
theorem e_kOr {p : Bool} {k : List Nat} : kOr mu σ (p, k) = if p = true then .ret (true, k) else (mu (frz σ k)).bind (kJb k) := rfl
theorem e_tNotM : tNotM mt (x :: r) = (mt (x :: r)).bind fun p => .ret (!p.1, p.2) := rfl
theorem e_tYes : tYesM σ = .ret (true, []) := rfl
theorem e_toB {k : Bool} : toB (.v (.bool k)) = .ret k := rfl
theorem e_looks0 : looks σ [] = .ret [] := rfl
theorem e_looks1 {y : R} {ys : List R} : looks σ (y :: ys) = (look σ y).bind fun d => (looks σ ys).bind fun ds => .ret (d :: ds) := rfl
theorem e_lookv : look σ (.v d) = .ret d := rfl
theorem e_looko {l : List DL.D} : look σ (.o (.lst l)) = .ret (.list l) := rfl
theorem e_looks {i : Nat} : look (x :: r) (.s i) = match (x :: r)[i]? with | some (.v d) => .ret d | some (.o z) => z.d | _ => .stop := rfl
theorem e_dic0 : mDic0 σ = .ret (.o (.dic []), []) := rfl
theorem e_dic1 {k : Str} {i : Int} : mDic1 k i σ = .ret (.o (.dic [(.inr k, .int i)]), []) := rfl
theorem e_lookd0 {kvs : List (Key × DL.D)} : look σ (.o (.dic kvs)) = .ret (.dict (kvs.map fun p => (keyD p.1, p.2))) := rfl
theorem e_Od {l : List DL.D} : O.d (.lst l) = .ret (.list l) := rfl
theorem e_argv : argOf σ (.v d) = .ret (.v d) := rfl
theorem e_argo {l : List DL.D} : argOf σ (.o (.lst l)) = .ret (.v (.list l)) := rfl
theorem e_args {i : Nat} : argOf (x :: r) (.s i) = match (x :: r)[i]? with | some (.o .pool) => .ret (.o .pool) | _ => (look (x :: r) (.s i)).bind fun d => .ret (.v d) := rfl
theorem e_argsOf0 : argsOf σ [] = .ret [] := rfl
theorem e_argsOf1 {y : R} {ys : List R} : argsOf σ (y :: ys) = (argOf σ y).bind fun a => (argsOf σ ys).bind fun l => .ret (a :: l) := rfl
theorem e_one {sl : List Sl} {t : T α} : one sl t = if pools sl ≤ 1 then t else .stop := rfl
def kF2 (f : List Sl → T R) (k : List Nat) (ps : List R) : List Sl → T (R × List Nat) := fun sl => one sl ((f sl).bind fun t => .ret (t, if t.atom = true then k else k ++ slotsAll ps))
def kF1 (f : List Sl → T R) (σ : DL.Env) : List R × List Nat → T (R × List Nat) := fun p => (argsOf (frz σ p.2) p.1).bind (kF2 f p.2 p.1)
theorem e_mCall {f : List Sl → T R} : mCall f ms (x :: r) = (ms (x :: r)).bind (kF1 f (x :: r)) := rfl
theorem e_kF1 {f : List Sl → T R} {p : List R} {k : List Nat} : kF1 f σ (p, k) = (argsOf (frz σ k) p).bind (kF2 f k p) := rfl
def kF3 (k : List Nat) (ps : List R) : R → T (R × List Nat) := fun t => .ret (t, if t.atom = true then k else k ++ slotsAll ps)
theorem e_kF2 {f : List Sl → T R} {p : List R} {k : List Nat} {sl : List Sl} : kF2 f k p sl = one sl ((f sl).bind (kF3 k p)) := rfl
theorem e_kF3 {p : List R} {k : List Nat} {t : R} : kF3 k p t = if t.atom = true then .ret (t, k) else .ret (t, k ++ slotsAll p) := by unfold kF3; split <;> rfl
theorem e_at0 : R.atom (.v .none) = true := rfl
theorem e_at1 {z : Bool} : R.atom (.v (.bool z)) = true := rfl
theorem e_at2 {z : Int} : R.atom (.v (.int z)) = true := rfl
theorem e_at3 {z : Str} : R.atom (.v (.str z)) = true := rfl
theorem e_at4 {z : List DL.D} : R.atom (.v (.list z)) = false := rfl
theorem e_at5 {z : List DL.D} : R.atom (.v (.tuple z)) = false := rfl
theorem e_at6 {z : List (DL.D × DL.D)} : R.atom (.v (.dict z)) = false := rfl
theorem e_at7 {z : O} : R.atom (.o z) = false := rfl
theorem e_mIsi {z : String} : mIsi z m (x :: r) = (m (x :: r)).bind fun p => (look (frz (x :: r) p.2) p.1).bind fun d => .ret (.v (.bool (isiD z d)), p.2) := rfl
def kS3 (σ : DL.Env) (p : R) (k : List Nat) (lo : Option Int) : Option Int × List Nat → T (R × List Nat) := fun t => (look (frz σ (k ++ t.2)) p).bind fun d => (dSl d lo t.1).bind (kP (k ++ t.2))
def kS2 (hi : MO) (σ : DL.Env) (p : R) (k : List Nat) : Option Int × List Nat → T (R × List Nat) := fun q => (hi (frz σ (k ++ q.2))).bind (kS3 σ p (k ++ q.2) q.1)
def kS1 (lo hi : MO) (σ : DL.Env) : R × List Nat → T (R × List Nat) := fun p => (lo (frz σ p.2)).bind (kS2 hi σ p.1 p.2)
theorem e_mSl {lo hi : MO} : mSl m lo hi (x :: r) = (m (x :: r)).bind (kS1 lo hi (x :: r)) := rfl
theorem e_kS1 {lo hi : MO} {p : R} {k : List Nat} : kS1 lo hi σ (p, k) = (lo (frz σ k)).bind (kS2 hi σ p k) := rfl
theorem e_kS2 {hi : MO} {p : R} {k l : List Nat} {q : Option Int} : kS2 hi σ p k (q, l) = (hi (frz σ (k ++ l))).bind (kS3 σ p (k ++ l) q) := rfl
theorem e_kS3 {p : R} {k l : List Nat} {q t : Option Int} : kS3 σ p k q (t, l) = (look (frz σ (k ++ l)) p).bind fun d => (dSl d q t).bind (kP (k ++ l)) := rfl
theorem e_oNone : oNone σ = .ret (none, []) := rfl
theorem e_oSome : oSome m (x :: r) = (m (x :: r)).bind fun p => match p.1 with | .v (.int i) => .ret (some i, p.2) | _ => .stop := rfl
theorem e_sNext : sNext σ = .ret (.nx, σ) := rfl
def kSeq (b : MS) : Fl × DL.Env → T (Fl × DL.Env) := fun p => match p.1 with | .nx => b p.2 | fl => .ret (fl, p.2)
theorem e_sSeq : sSeq a b (x :: r) = (a (x :: r)).bind (kSeq b) := rfl
theorem e_kSeq0 : kSeq b (.nx, σ) = b σ := rfl
theorem e_kSeq1 {z : R} : kSeq b (.rt z, σ) = .ret (.rt z, σ) := rfl
def kIf (a b : MS) (σ : DL.Env) : Bool × List Nat → T (Fl × DL.Env) := fun p => if p.1 = true then a (frz σ p.2) else b (frz σ p.2)
theorem e_sIf : sIf mt a b (x :: r) = (mt (x :: r)).bind (kIf a b (x :: r)) := rfl
theorem e_kIf {p : Bool} {k : List Nat} : kIf a b σ (p, k) = if p = true then a (frz σ k) else b (frz σ k) := rfl
def kRet (σ : DL.Env) : R × List Nat → T (Fl × DL.Env) := fun p => retOf (frz σ p.2) p.1
theorem e_sRet : sRet m (x :: r) = (m (x :: r)).bind (kRet (x :: r)) := rfl
theorem e_kRet {p : R} {k : List Nat} : kRet σ (p, k) = retOf (frz σ k) p := rfl
theorem e_retv : retOf σ (.v d) = .ret (.rt (.v d), σ) := rfl
theorem e_reto {o : O} : retOf σ (.o o) = .ret (.rt (.o o), σ) := rfl
theorem e_rets {i : Nat} : retOf (x :: r) (.s i) = match (x :: r)[i]? with | some (.v d) => .ret (.rt (.v d), x :: r) | some (.o .pool) => .stop | some (.o z) => .ret (.rt (.o z), (x :: r).set i .u) | _ => .stop := rfl
def kSt (i : Nat) (σ : DL.Env) : R × List Nat → T (Fl × DL.Env) := fun p => stor i (frz σ p.2) p.1
theorem e_sSet {i : Nat} : sSet i m (x :: r) = (m (x :: r)).bind (kSt i (x :: r)) := rfl
theorem e_kSt {i : Nat} {p : R} {k : List Nat} : kSt i σ (p, k) = stor i (frz σ k) p := rfl
def wr : Sl → Bool
  | .o .pool => false
  | _ => true
def wrO : Option Sl → Bool
  | none => false
  | some s => wr s
theorem e_wrO {s : Sl} : wrO (some s) = wr s := rfl
theorem e_wru : wr .u = true := rfl
theorem e_wrv : wr (.v d) = true := rfl
theorem e_wrl {l : List DL.D} : wr (.o (.lst l)) = true := rfl
theorem e_storv {i : Nat} : stor i (x :: r) (.v d) = if wrO (x :: r)[i]? = true then .ret (.nx, (x :: r).set i (.v d)) else .stop := by
  unfold stor
  rcases (x :: r)[i]? with _ | (_ | _ | (_ | _ | _)) <;> rfl
theorem e_storo {i : Nat} {o : O} : stor i (x :: r) (.o o) = if wrO (x :: r)[i]? = true then .ret (.nx, (x :: r).set i (.o o)) else .stop := by
  unfold stor
  rcases (x :: r)[i]? with _ | (_ | _ | (_ | _ | _)) <;> rfl
theorem e_stors {i j : Nat} : stor i (x :: r) (.s j) = if wrO (x :: r)[i]? = true then (look (x :: r) (.s j)).bind fun d => .ret (.nx, (frz1 (x :: r) j).set i (.v d)) else .stop := by
  unfold stor
  rcases (x :: r)[i]? with _ | (_ | _ | (_ | _ | _)) <;> rfl
def kFor (g : MG) (a : MS) (σ : DL.Env) : List DL.D × List Nat → T (Fl × DL.Env) := fun p => sForGo g a p.1 (frz σ p.2)
def kGo (g : MG) (a : MS) (ds : List DL.D) : Fl × DL.Env → T (Fl × DL.Env) := fun p => match p.1 with | .nx => sForGo g a ds p.2 | .ct => sForGo g a ds p.2 | .bk => .ret (.nx, p.2) | .rt z => .ret (.rt z, p.2)
def kBd (g : MG) (a : MS) (ds : List DL.D) : DL.Env → T (Fl × DL.Env) := fun σ1 => (a σ1).bind (kGo g a ds)
theorem e_sFor {mi : MI} {g : MG} : sFor mi g a (x :: r) = (mi (x :: r)).bind (kFor g a (x :: r)) := rfl
theorem e_kFor {g : MG} {p : List DL.D} {k : List Nat} : kFor g a σ (p, k) = sForGo g a p (frz σ k) := rfl
theorem e_for0 {g : MG} : sForGo g a [] σ = .ret (.nx, σ) := rfl
theorem e_for1 {g : MG} {ds : List DL.D} : sForGo g a (d :: ds) (x :: r) = (g d (x :: r)).bind (kBd g a ds) := rfl
theorem e_kBd {g : MG} {ds : List DL.D} : kBd g a ds (x :: r) = (a (x :: r)).bind (kGo g a ds) := rfl
theorem e_kGo0 {g : MG} {ds : List DL.D} : kGo g a ds (.nx, σ) = sForGo g a ds σ := rfl
theorem e_kGo1 {g : MG} {ds : List DL.D} {z : R} : kGo g a ds (.rt z, σ) = .ret (.rt z, σ) := rfl
theorem e_iSeq : iSeq m (x :: r) = (m (x :: r)).bind fun p => (look (frz (x :: r) p.2) p.1).bind fun d => (itemsOf d).bind fun ds => .ret (ds, p.2 ++ slotsOf p.1) := rfl
theorem e_iRng {f : List DL.D → T (List DL.D)} : iRngM f ms (x :: r) = (ms (x :: r)).bind fun p => (looks (frz (x :: r) p.2) p.1).bind fun ds => (f ds).bind fun l => .ret (l, p.2) := rfl
theorem e_gSet {i : Nat} : gSet i d (x :: r) = if wrO (x :: r)[i]? = true then .ret ((x :: r).set i (.v d)) else .stop := by
  unfold gSet
  rcases (x :: r)[i]? with _ | (_ | _ | (_ | _ | _)) <;> rfl
def kLc2 (p : List Nat) (vs : List Nat) : List DL.D × List Nat → T (R × List Nat) := fun z => .ret (.o (.lst z.1), p ++ out vs z.2)
def kLc1 (g : MG) (mt : MT) (m : M) (vs : List Nat) (σ : DL.Env) : List DL.D × List Nat → T (R × List Nat) := fun p => chk p.1.length ((mLcGo g mt m vs p.1 (mwipe (frz σ p.2) vs)).bind (kLc2 p.2 vs))
theorem e_mLc {mi : MI} {g : MG} {vs : List Nat} : mLc mi g mt m vs (x :: r) = (mi (x :: r)).bind (kLc1 g mt m vs (x :: r)) := rfl
theorem e_kLc1 {g : MG} {vs : List Nat} {p : List DL.D} {k : List Nat} : kLc1 g mt m vs σ (p, k) = chk p.length ((mLcGo g mt m vs p (mwipe (frz σ k) vs)).bind (kLc2 k vs)) := rfl
theorem e_kLc2 {vs k l : List Nat} {p : List DL.D} : kLc2 k vs (p, l) = .ret (.o (.lst p), k ++ out vs l) := rfl
theorem e_wipe0 : mwipe σ [] = σ := rfl
theorem e_wipe1 {i : Nat} {vs : List Nat} : mwipe (x :: r) (i :: vs) = mwipe ((x :: r).set i .u) vs := rfl
theorem e_frz0 : frz σ [] = σ := rfl
theorem e_frz1 {i : Nat} {k : List Nat} : frz (x :: r) (i :: k) = frz (frz1 (x :: r) i) k := rfl
theorem e_frz {i : Nat} : frz1 (x :: r) i = match (x :: r)[i]? with | some (.o z) => (match z.toD with | some d => (x :: r).set i (.v d) | none => x :: r) | _ => x :: r := rfl
def kFn : Fl × DL.Env → T R := fun p => match p.1 with | .nx => .ret (.v .none) | .rt z => .ret z | _ => .stop
theorem e_fnM {n : Nat} {sl : List Sl} : fnM n a sl = (a (sl ++ List.replicate (n - sl.length) .u)).bind kFn := rfl
theorem e_kFn0 : kFn (.nx, σ) = .ret (.v .none) := rfl
theorem e_kFn1 {z : R} : kFn (.rt z, σ) = .ret z := rfl
theorem e_chain {f g : DL.D → DL.D → T R} : mChain f g ma mb mc (x :: r) = (ma (x :: r)).bind fun p => (mb (frz (x :: r) p.2)).bind fun q => (look (frz (frz (x :: r) p.2) q.2) p.1).bind fun y => (look (frz (frz (x :: r) p.2) q.2) q.1).bind fun z => (f y z).bind fun t => (toB t).bind fun k => if k = true then (mc (frz (frz (x :: r) p.2) q.2)).bind fun t => (look (frz (frz (frz (x :: r) p.2) q.2) t.2) q.1).bind fun y => (look (frz (frz (frz (x :: r) p.2) q.2) t.2) t.1).bind fun z => (g y z).bind fun u => .ret (u, (p.2 ++ q.2) ++ t.2) else .ret (.v (.bool false), p.2 ++ q.2) := rfl
theorem e_put {i : Nat} {mk : M} : sPut i mk m (x :: r) = (m (x :: r)).bind fun p => (look (frz (x :: r) p.2) p.1).bind fun d => (ownL (frz (frz (x :: r) p.2) (slotsOf p.1)) i).bind fun _ => (mk (frz (frz (x :: r) p.2) (slotsOf p.1))).bind fun q => (look (frz (frz (frz (x :: r) p.2) (slotsOf p.1)) q.2) q.1).bind fun k => match k with | .int k => (ownL (frz (frz (frz (x :: r) p.2) (slotsOf p.1)) q.2) i).bind fun ds => (match ixN ds.length k with | some j => .ret (.nx, (frz (frz (frz (x :: r) p.2) (slotsOf p.1)) q.2).set i (.o (.lst (ds.set j d)))) | none => .stop) | _ => .stop := rfl
theorem e_own {i : Nat} : ownL (x :: r) i = match (x :: r)[i]? with | some (.o (.lst ds)) => .ret ds | _ => .stop := rfl
theorem bind_ite {p : Prop} [Decidable p] {s t : T α} {f : α → T β} : T.bind (if p then s else t) f = if p then s.bind f else t.bind f := by split <;> rfl
theorem wp_ite {p : Prop} [Decidable p] {s t : T α} {Q : α → Prop} : (if p then s else t).wp Q = if p then s.wp Q else t.wp Q := by split <;> rfl
theorem bind_draw {n : Int} {k : Int → T α} {f : α → T β} : T.bind (.draw n k) f = .draw n fun i => (k i).bind f := rfl
theorem bind_r {y : α} {f : α → T β} : T.bind (.ret y) f = f y := rfl
theorem wp_ret {a : α} {Q : α → Prop} : (T.ret a).wp Q = Q a := rfl
theorem wp_draw {n : Int} {k : Int → T α} {Q : α → Prop} : (T.draw n k).wp Q = (0 < n ∧ ∀ i, 0 ≤ i → i < n → (k i).wp Q) := rfl
theorem e_chk {n : Nat} {t : T α} : chk n t = if n ≤ 100000 then t else .stop := rfl
theorem bind_s {f : α → T β} : T.bind .stop f = .stop := rfl
end
def RP (P : DL.D → Prop) : R → Prop
  | .v d => P d
  | .o x => ∃ d, x.toD = some d ∧ P d
  | .s _ => False
/-- what counts as an int -/
def isW : DL.D → Bool
  | .int _ => true
  | _ => false
theorem whole_is (d : DL.D) : m_law_is_integer [.v d] = .ret (.v (.bool (isW d))) := by
  cases d <;> simp -implicitDefEqProofs only [m_law_is_integer, e_mC, e_mVar, e_mBin, e_kB1, e_kB2, e_kB3, e_kB4, e_kP, e_mUn, e_kU1, e_kU2, e_mNil, e_mCons, e_kC1, e_kC2, e_mB, e_kA1, e_kA2, e_mTup, e_mLst, e_kT1, e_kL1, e_kJ, e_kJb, e_mIf, e_kI1, e_mAndV, e_kV1, e_kV2, e_mOrV, e_kO1, e_kO2, e_mNotV, e_kN1, e_tOf, e_kQ1, e_tAndM, e_tOrM, e_kAn, e_kOr, e_tNotM, e_tYes, e_toB, e_looks0, e_looks1, e_lookv, e_looko, e_looks, e_Od, e_argv, e_argo, e_args, e_argsOf0, e_argsOf1, e_one, e_mCall, e_kF1, e_kF2, e_kF3, e_at0, e_at1, e_at2, e_at3, e_at4, e_at5, e_at6, e_at7, e_mIsi, e_mSl, e_kS1, e_kS2, e_kS3, e_oNone, e_oSome, e_sNext, e_sSeq, e_kSeq0, e_kSeq1, e_sIf, e_kIf, e_sRet, e_kRet, e_retv, e_reto, e_rets, e_sSet, e_kSt, e_wrO, e_wru, e_wrv, e_wrl, e_storv, e_dic0, e_dic1, e_lookd0, e_storo, e_stors, e_sFor, e_kFor, e_for0, e_for1, e_kBd, e_kGo0, e_kGo1, e_iSeq, e_iRng, e_gSet, e_mLc, e_kLc1, e_kLc2, e_wipe0, e_wipe1, e_frz0, e_frz1, e_frz, e_fnM, e_kFn0, e_kFn1, e_chain, e_put, e_own, bind_ite, wp_ite, bind_draw, bind_r, wp_ret, wp_draw, e_chk, bind_s, pools, O.toD, List.append_nil, List.nil_append, List.cons_append, List.length_cons, List.length_nil, List.replicate, List.getElem?_cons_zero, List.getElem?_cons_succ, List.set, slotsAll, slotsOf, List.flatMap_cons, List.flatMap_nil, Bool.false_eq_true, if_true, if_false, Bool.not_true, Bool.not_false, Nat.zero_add, Nat.le_refl, Nat.zero_le, isi_none, isi_bool, isi_int, isi_str, isi_list, isi_tuple, isi_dict, dIs, dIsNot, isNone, decide_eq_true_eq, Bool.not_eq_true, Nat.reduceLeDiff, Nat.reduceAdd, Nat.reduceSub, itemsOf] <;> rfl
theorem draw_lit {n : Int} (h : n ≤ 1000000000) : mDraw [.o .pool, .v (.int n)] = .draw n fun i => .ret (.v (.int i)) := if_pos h
theorem bLen_tup (xs : List DL.D) : bLen [.tuple xs] = .ret (.v (.int xs.length)) := rfl
theorem bLen_list (xs : List DL.D) : bLen [.list xs] = .ret (.v (.int xs.length)) := rfl
theorem dGt_int (i j : Int) : dGt (.int i) (.int j) = .ret (.v (.bool (decide (j < i)))) := rfl
theorem dGe_int (i j : Int) : dGe (.int i) (.int j) = .ret (.v (.bool (decide (j ≤ i)))) := rfl
theorem dLt_int (i j : Int) : dLt (.int i) (.int j) = .ret (.v (.bool (decide (i < j)))) := rfl
theorem dLe_int (i j : Int) : dLe (.int i) (.int j) = .ret (.v (.bool (decide (i ≤ j)))) := rfl
theorem dEq_int (i j : Int) : dEq (.int i) (.int j) = .ret (.v (.bool (decide (i = j)))) := rfl
theorem dNe_int (i j : Int) : dNe (.int i) (.int j) = .ret (.v (.bool (!decide (i = j)))) := rfl
theorem dEq_str (i j : Str) : dEq (.str i) (.str j) = .ret (.v (.bool (decide (i = j)))) := rfl
theorem dEq_bool (i j : Bool) : dEq (.bool i) (.bool j) = .ret (.v (.bool (decide (i = j)))) := rfl
theorem dNe_bool (i j : Bool) : dNe (.bool i) (.bool j) = .ret (.v (.bool (!decide (i = j)))) := rfl
theorem dAdd_int (i j : Int) : dAdd (.int i) (.int j) = .ret (.v (.int (i + j))) := rfl
theorem dSub_int (i j : Int) : dSub (.int i) (.int j) = .ret (.v (.int (i - j))) := rfl
theorem dNeg_int (i : Int) : dNeg (.int i) = .ret (.v (.int (-i))) := rfl
theorem dAdd_tup {xs ys : List DL.D} (h : xs.length + ys.length ≤ 100000) : dAdd (.tuple xs) (.tuple ys) = .ret (.v (.tuple (xs ++ ys))) := if_pos h
theorem dAdd_list {xs ys : List DL.D} (h : xs.length + ys.length ≤ 100000) : dAdd (.list xs) (.list ys) = .ret (.o (.lst (xs ++ ys))) := if_pos h
theorem dIx_tup {xs : List DL.D} {i : Nat} {x : DL.D} (h : xs[i]? = some x) : dIx (.tuple xs) (.int i) = .ret (.v x) := by
  show (match atI xs i with | some x => T.ret (R.v x) | none => .stop) = _
  rw [atI_nat h]
theorem chk_le {α : Type} {n : Nat} {t : T α} (h : n ≤ 100000) : chk n t = t := if_pos h
theorem dIx_mem {xs : List DL.D} {i : Int} (h0 : 0 ≤ i) (h1 : i < (xs.length : Nat)) : ∃ x, xs[i.toNat]? = some x ∧ x ∈ xs ∧ dIx (.tuple xs) (.int i) = .ret (.v x) := by
  have hlt : i.toNat < xs.length := by omega
  refine ⟨xs[i.toNat], List.getElem?_eq_getElem hlt, List.getElem_mem hlt, ?_⟩
  have := dIx_tup (List.getElem?_eq_getElem hlt)
  rwa [Int.toNat_of_nonneg h0] at this
theorem cut_lo {xs : List DL.D} {i : Int} (h : 0 ≤ i) : cutD xs none (some i) = xs.take i.toNat := by
  obtain ⟨k, rfl⟩ : ∃ k : Nat, i = k := ⟨i.toNat, (Int.toNat_of_nonneg h).symm⟩
  unfold cutD
  rw [HT.sIx_nat, HT.sIx_none, Int.toNat_natCast, List.drop_zero, Nat.sub_zero]
  by_cases hk : k ≤ xs.length
  · rw [Nat.min_eq_left hk]
  · rw [Nat.min_eq_right (by omega), List.take_of_length_le (Nat.le_refl _), List.take_of_length_le (by omega)]
theorem cut_hi {xs : List DL.D} {i : Int} (h : 0 ≤ i) : cutD xs (some i) none = xs.drop i.toNat := by
  obtain ⟨k, rfl⟩ : ∃ k : Nat, i = k := ⟨i.toNat, (Int.toNat_of_nonneg h).symm⟩
  unfold cutD
  rw [HT.sIx_nat, HT.sIx_none, Int.toNat_natCast]
  by_cases hk : k ≤ xs.length
  · rw [Nat.min_eq_left hk, List.take_of_length_le (by rw [List.length_drop]; omega)]
  · rw [Nat.min_eq_right (by omega), Nat.sub_self, List.take_zero, List.drop_of_length_le (by omega)]
theorem ixN_of {n : Nat} {i : Int} (h0 : 0 ≤ i) (h1 : i < n) : ixN n i = some i.toNat := by
  unfold ixN
  rw [if_pos h0, if_pos h1]
theorem dSl_tup {xs : List DL.D} {lo hi : Option Int} : dSl (.tuple xs) lo hi = .ret (.v (.tuple (cutD xs lo hi))) := rfl
theorem dSl_str {z : Str} {lo hi : Option Int} : dSl (.str z) lo hi = chk z.length (.ret (.v (.str (cutS z lo hi)))) := rfl
theorem dAdd_str {a b : Str} : dAdd (.str a) (.str b) = chk (a.length + b.length) (.ret (.v (.str (a ++ b)))) := rfl
theorem dSl_list {xs : List DL.D} {lo hi : Option Int} : dSl (.list xs) lo hi = .ret (.o (.lst (cutD xs lo hi))) := rfl
theorem bList_tup {xs : List DL.D} : bList [.tuple xs] = .ret (.o (.lst xs)) := rfl
theorem bTuple_list {xs : List DL.D} : bTuple [.list xs] = .ret (.v (.tuple xs)) := rfl
theorem bTuple_tup {xs : List DL.D} : bTuple [.tuple xs] = .ret (.v (.tuple xs)) := rfl
theorem strOk_app {a b : Str} (ha : strOk a) (hb : strOk b) : strOk (a ++ b) := by
  intro c hc
  have e : (a ++ b).cps.toList = a.cps.toList ++ b.cps.toList := by
    show (a.cps ++ b.cps).toList = _
    simp
  rw [e] at hc
  exact (List.mem_append.mp hc).elim (ha c) (hb c)
end DL

namespace DL
open PySem PySem.Spec PyProof.Rows L2
open Sc
theorem bent_wp (B : Nat) : ∀ (n h : Nat) (d : DL.D), Bd B h d → h < n → wt d ≤ 10000 → (m_law_bent n [.o .pool, .v d]).wp (RP fun d' => Bd (B + 2) (h + 1) d' ∧ wt d' ≤ 3 * wt d + 200) := by
  intro n
  have l4 : (4:Int) ≤ 1000000000 := by decide
  have l9 : (9:Int) ≤ 1000000000 := by decide
  have l10 : (10:Int) ≤ 1000000000 := by decide
  have l5 : (5:Int) ≤ 1000000000 := by decide
  -- what a bent value may be at once
  have odd : ∀ (h : Nat) (d : DL.D) (i : Int), 0 ≤ i → i < 10 → ∃ x, dIx (.tuple [.str "x", .bool true, .tuple [], .int 0, .int (-1), .none, .bool false, .list [], .str "in", .int 1]) (.int i) = .ret (.v x) ∧ Bd (B + 2) (h + 1) x ∧ wt x ≤ 3 * wt d + 200 := by
    intro h d i h0 h1
    obtain ⟨x, _, hx, e⟩ := dIx_mem (xs := [.str "x", .bool true, .tuple [], .int 0, .int (-1), .none, .bool false, .list [], .str "in", .int 1]) h0 h1
    refine ⟨x, e, ?_⟩
    have all : ∀ x ∈ ([.str "x", .bool true, .tuple [], .int 0, .int (-1), .none, .bool false, .list [], .str "in", .int 1] : List DL.D), Bd (B + 2) (h + 1) x ∧ wt x ≤ 200 := by
      have sx : strOk "x" := by unfold strOk; decide
      have si : strOk "in" := by unfold strOk; decide
      refine List.forall_mem_cons.mpr ⟨⟨.str sx, by decide⟩, List.forall_mem_cons.mpr ⟨⟨.bool, by decide⟩, List.forall_mem_cons.mpr ⟨⟨fun _ z => (nomatch z), by decide⟩, List.forall_mem_cons.mpr ⟨⟨.int (by omega), by decide⟩, List.forall_mem_cons.mpr ⟨⟨.int (by omega), by decide⟩, List.forall_mem_cons.mpr ⟨⟨.none, by decide⟩, List.forall_mem_cons.mpr ⟨⟨.bool, by decide⟩, List.forall_mem_cons.mpr ⟨⟨fun _ z => (nomatch z), by decide⟩, List.forall_mem_cons.mpr ⟨⟨.str si, by decide⟩, List.forall_mem_cons.mpr ⟨⟨.int (by omega), by decide⟩, fun _ z => nomatch z⟩⟩⟩⟩⟩⟩⟩⟩⟩⟩
    obtain ⟨a, b⟩ := all x hx
    exact ⟨a, by omega⟩
  have pair : ∀ (h : Nat) (d : DL.D), Bd B h d → RP (fun d' => Bd (B + 2) (h + 1) d' ∧ wt d' ≤ 3 * wt d + 200) (.v (.tuple [d, .int 0])) := fun h d q => by
    refine ⟨List.forall_mem_cons.mpr ⟨q.mono (by omega) (Nat.le_refl _), List.forall_mem_cons.mpr ⟨.int (by omega), fun _ z => nomatch z⟩⟩, ?_⟩
    simp only [wt, wtA]; omega
  have nil : ∀ (h : Nat) (d : DL.D), RP (fun d' => Bd (B + 2) (h + 1) d' ∧ wt d' ≤ 3 * wt d + 200) (.v (.tuple [])) := fun h d => ⟨fun _ z => (nomatch z), by simp only [wt, wtA]; omega⟩
  induction n with
  | zero => intro h d _ hh; omega
  | succ n ih =>
    intro h d q hh hw
    cases d with
    | tuple xs =>
      obtain ⟨k, rfl, hx⟩ := q.tup_inv
      have hl := wtA_len xs
      have hwx : wt (.tuple xs) = wtA xs + 8 := by simp only [wt]
      rw [hwx] at hw
      have hlI : ((xs.length : Nat) : Int) ≤ 1000000000 := by omega
      by_cases he : xs = []
      · subst he
        simp -implicitDefEqProofs only [m_law_bent, e_mC, e_mVar, e_mBin, e_kB1, e_kB2, e_kB3, e_kB4, e_kP, e_mUn, e_kU1, e_kU2, e_mNil, e_mCons, e_kC1, e_kC2, e_mB, e_kA1, e_kA2, e_mTup, e_mLst, e_kT1, e_kL1, e_kJ, e_kJb, e_mIf, e_kI1, e_mAndV, e_kV1, e_kV2, e_mOrV, e_kO1, e_kO2, e_mNotV, e_kN1, e_tOf, e_kQ1, e_tAndM, e_tOrM, e_kAn, e_kOr, e_tNotM, e_tYes, e_toB, e_looks0, e_looks1, e_lookv, e_looko, e_looks, e_Od, e_argv, e_argo, e_args, e_argsOf0, e_argsOf1, e_one, e_mCall, e_kF1, e_kF2, e_kF3, e_at0, e_at1, e_at2, e_at3, e_at4, e_at5, e_at6, e_at7, e_mIsi, e_mSl, e_kS1, e_kS2, e_kS3, e_oNone, e_oSome, e_sNext, e_sSeq, e_kSeq0, e_kSeq1, e_sIf, e_kIf, e_sRet, e_kRet, e_retv, e_reto, e_rets, e_sSet, e_kSt, e_wrO, e_wru, e_wrv, e_wrl, e_storv, e_dic0, e_dic1, e_lookd0, e_storo, e_stors, e_sFor, e_kFor, e_for0, e_for1, e_kBd, e_kGo0, e_kGo1, e_iSeq, e_iRng, e_gSet, e_mLc, e_kLc1, e_kLc2, e_wipe0, e_wipe1, e_frz0, e_frz1, e_frz, e_fnM, e_kFn0, e_kFn1, e_chain, e_put, e_own, bind_ite, wp_ite, bind_draw, bind_r, wp_ret, wp_draw, e_chk, bind_s, pools, O.toD, List.append_nil, List.nil_append, List.cons_append, List.length_cons, List.length_nil, List.replicate, List.getElem?_cons_zero, List.getElem?_cons_succ, List.set, slotsAll, slotsOf, List.flatMap_cons, List.flatMap_nil, Bool.false_eq_true, if_true, if_false, Bool.not_true, Bool.not_false, Nat.zero_add, Nat.le_refl, Nat.zero_le, isi_none, isi_bool, isi_int, isi_str, isi_list, isi_tuple, isi_dict, dIs, dIsNot, isNone, decide_eq_true_eq, Bool.not_eq_true, Nat.reduceLeDiff, Nat.reduceAdd, Nat.reduceSub, itemsOf, whole_is, draw_lit l9, draw_lit l10, dEq_int, dNeg_int, dGt_int, dLt_int, isW, bLen_tup, show ¬ ((0:Int) < ((0:Nat):Int)) by decide, show (((0:Nat):Int) = 0) by decide]
        refine ⟨by decide, fun i h0 h1 => ?_⟩
        split
        · refine ⟨by decide, fun k k0 k1 => ?_⟩
          obtain ⟨x, e, ok⟩ := odd _ (.tuple []) k k0 k1
          simp -implicitDefEqProofs only [e, e_mC, e_mVar, e_mBin, e_kB1, e_kB2, e_kB3, e_kB4, e_kP, e_mUn, e_kU1, e_kU2, e_mNil, e_mCons, e_kC1, e_kC2, e_mB, e_kA1, e_kA2, e_mTup, e_mLst, e_kT1, e_kL1, e_kJ, e_kJb, e_mIf, e_kI1, e_mAndV, e_kV1, e_kV2, e_mOrV, e_kO1, e_kO2, e_mNotV, e_kN1, e_tOf, e_kQ1, e_tAndM, e_tOrM, e_kAn, e_kOr, e_tNotM, e_tYes, e_toB, e_looks0, e_looks1, e_lookv, e_looko, e_looks, e_Od, e_argv, e_argo, e_args, e_argsOf0, e_argsOf1, e_one, e_mCall, e_kF1, e_kF2, e_kF3, e_at0, e_at1, e_at2, e_at3, e_at4, e_at5, e_at6, e_at7, e_mIsi, e_mSl, e_kS1, e_kS2, e_kS3, e_oNone, e_oSome, e_sNext, e_sSeq, e_kSeq0, e_kSeq1, e_sIf, e_kIf, e_sRet, e_kRet, e_retv, e_reto, e_rets, e_sSet, e_kSt, e_wrO, e_wru, e_wrv, e_wrl, e_storv, e_dic0, e_dic1, e_lookd0, e_storo, e_stors, e_sFor, e_kFor, e_for0, e_for1, e_kBd, e_kGo0, e_kGo1, e_iSeq, e_iRng, e_gSet, e_mLc, e_kLc1, e_kLc2, e_wipe0, e_wipe1, e_frz0, e_frz1, e_frz, e_fnM, e_kFn0, e_kFn1, e_chain, e_put, e_own, bind_ite, wp_ite, bind_draw, bind_r, wp_ret, wp_draw, e_chk, bind_s, pools, O.toD, List.append_nil, List.nil_append, List.cons_append, List.length_cons, List.length_nil, List.replicate, List.getElem?_cons_zero, List.getElem?_cons_succ, List.set, slotsAll, slotsOf, List.flatMap_cons, List.flatMap_nil, Bool.false_eq_true, if_true, if_false, Bool.not_true, Bool.not_false, Nat.zero_add, Nat.le_refl, Nat.zero_le, isi_none, isi_bool, isi_int, isi_str, isi_list, isi_tuple, isi_dict, dIs, dIsNot, isNone, decide_eq_true_eq, Bool.not_eq_true, Nat.reduceLeDiff, Nat.reduceAdd, Nat.reduceSub, itemsOf]
          exact ok
        · split
          · exact pair _ _ q
          · exact nil _ _
      have hpos : 0 < xs.length := List.length_pos_iff.mpr he
      have hposI : (0:Int) < ((xs.length : Nat) : Int) := by omega
      have hne : ¬ (((xs.length : Nat) : Int) = 0) := by omega
      have tk : ∀ i : Int, (xs.take i.toNat).length ≤ xs.length := fun i => by rw [List.length_take]; omega
      have dp : ∀ i : Int, (xs.drop i.toNat).length ≤ xs.length := fun i => by rw [List.length_drop]; omega
      simp -implicitDefEqProofs only [m_law_bent, e_mC, e_mVar, e_mBin, e_kB1, e_kB2, e_kB3, e_kB4, e_kP, e_mUn, e_kU1, e_kU2, e_mNil, e_mCons, e_kC1, e_kC2, e_mB, e_kA1, e_kA2, e_mTup, e_mLst, e_kT1, e_kL1, e_kJ, e_kJb, e_mIf, e_kI1, e_mAndV, e_kV1, e_kV2, e_mOrV, e_kO1, e_kO2, e_mNotV, e_kN1, e_tOf, e_kQ1, e_tAndM, e_tOrM, e_kAn, e_kOr, e_tNotM, e_tYes, e_toB, e_looks0, e_looks1, e_lookv, e_looko, e_looks, e_Od, e_argv, e_argo, e_args, e_argsOf0, e_argsOf1, e_one, e_mCall, e_kF1, e_kF2, e_kF3, e_at0, e_at1, e_at2, e_at3, e_at4, e_at5, e_at6, e_at7, e_mIsi, e_mSl, e_kS1, e_kS2, e_kS3, e_oNone, e_oSome, e_sNext, e_sSeq, e_kSeq0, e_kSeq1, e_sIf, e_kIf, e_sRet, e_kRet, e_retv, e_reto, e_rets, e_sSet, e_kSt, e_wrO, e_wru, e_wrv, e_wrl, e_storv, e_dic0, e_dic1, e_lookd0, e_storo, e_stors, e_sFor, e_kFor, e_for0, e_for1, e_kBd, e_kGo0, e_kGo1, e_iSeq, e_iRng, e_gSet, e_mLc, e_kLc1, e_kLc2, e_wipe0, e_wipe1, e_frz0, e_frz1, e_frz, e_fnM, e_kFn0, e_kFn1, e_chain, e_put, e_own, bind_ite, wp_ite, bind_draw, bind_r, wp_ret, wp_draw, e_chk, bind_s, pools, O.toD, List.append_nil, List.nil_append, List.cons_append, List.length_cons, List.length_nil, List.replicate, List.getElem?_cons_zero, List.getElem?_cons_succ, List.set, slotsAll, slotsOf, List.flatMap_cons, List.flatMap_nil, Bool.false_eq_true, if_true, if_false, Bool.not_true, Bool.not_false, Nat.zero_add, Nat.le_refl, Nat.zero_le, isi_none, isi_bool, isi_int, isi_str, isi_list, isi_tuple, isi_dict, dIs, dIsNot, isNone, decide_eq_true_eq, Bool.not_eq_true, Nat.reduceLeDiff, Nat.reduceAdd, Nat.reduceSub, itemsOf, whole_is, draw_lit l9, draw_lit l10, draw_lit l4, dEq_int, dNeg_int, dGt_int, dLt_int, isW, bLen_tup, hposI, hne, draw_lit hlI, dSl_tup, dAdd_int, bList_tup]
      refine ⟨by decide, fun i _ _ => ?_⟩
      split
      · -- one item bent
        refine ⟨trivial, fun at_ a0 a1 => ?_⟩
        obtain ⟨x, ex, hxm, e⟩ := dIx_mem a0 a1
        simp -implicitDefEqProofs only [e, e_mC, e_mVar, e_mBin, e_kB1, e_kB2, e_kB3, e_kB4, e_kP, e_mUn, e_kU1, e_kU2, e_mNil, e_mCons, e_kC1, e_kC2, e_mB, e_kA1, e_kA2, e_mTup, e_mLst, e_kT1, e_kL1, e_kJ, e_kJb, e_mIf, e_kI1, e_mAndV, e_kV1, e_kV2, e_mOrV, e_kO1, e_kO2, e_mNotV, e_kN1, e_tOf, e_kQ1, e_tAndM, e_tOrM, e_kAn, e_kOr, e_tNotM, e_tYes, e_toB, e_looks0, e_looks1, e_lookv, e_looko, e_looks, e_Od, e_argv, e_argo, e_args, e_argsOf0, e_argsOf1, e_one, e_mCall, e_kF1, e_kF2, e_kF3, e_at0, e_at1, e_at2, e_at3, e_at4, e_at5, e_at6, e_at7, e_mIsi, e_mSl, e_kS1, e_kS2, e_kS3, e_oNone, e_oSome, e_sNext, e_sSeq, e_kSeq0, e_kSeq1, e_sIf, e_kIf, e_sRet, e_kRet, e_retv, e_reto, e_rets, e_sSet, e_kSt, e_wrO, e_wru, e_wrv, e_wrl, e_storv, e_dic0, e_dic1, e_lookd0, e_storo, e_stors, e_sFor, e_kFor, e_for0, e_for1, e_kBd, e_kGo0, e_kGo1, e_iSeq, e_iRng, e_gSet, e_mLc, e_kLc1, e_kLc2, e_wipe0, e_wipe1, e_frz0, e_frz1, e_frz, e_fnM, e_kFn0, e_kFn1, e_chain, e_put, e_own, bind_ite, wp_ite, bind_draw, bind_r, wp_ret, wp_draw, e_chk, bind_s, pools, O.toD, List.append_nil, List.nil_append, List.cons_append, List.length_cons, List.length_nil, List.replicate, List.getElem?_cons_zero, List.getElem?_cons_succ, List.set, slotsAll, slotsOf, List.flatMap_cons, List.flatMap_nil, Bool.false_eq_true, if_true, if_false, Bool.not_true, Bool.not_false, Nat.zero_add, Nat.le_refl, Nat.zero_le, isi_none, isi_bool, isi_int, isi_str, isi_list, isi_tuple, isi_dict, dIs, dIsNot, isNone, decide_eq_true_eq, Bool.not_eq_true, Nat.reduceLeDiff, Nat.reduceAdd, Nat.reduceSub, itemsOf, cut_lo a0, cut_hi (show 0 ≤ at_ + 1 by omega)]
        have hwm := wtA_mem hxm
        have fin : ∀ y, Bd (B + 2) (k + 1) y → wt y ≤ 3 * wt x + 200 → Bd (B + 2) (k + 1 + 1) (.tuple (xs.take at_.toNat ++ [y] ++ xs.drop (at_ + 1).toNat)) ∧ wt (.tuple (xs.take at_.toNat ++ [y] ++ xs.drop (at_ + 1).toNat)) ≤ 3 * wt (.tuple xs) + 200 := by
          intro y by_ wy
          have e1 : (at_ + 1).toNat = at_.toNat + 1 := by omega
          refine ⟨fun u hu => ?_, ?_⟩
          · rcases List.mem_append.mp hu with hu | hu
            · rcases List.mem_append.mp hu with hu | hu
              · exact (hx u (List.mem_of_mem_take hu)).mono (by omega) (by omega)
              · obtain rfl := List.mem_singleton.mp hu
                exact by_
            · exact (hx u (List.mem_of_mem_drop hu)).mono (by omega) (by omega)
          · have := wtA_cut ex [y]
            rw [e1]
            simp only [wt, wtA] at this ⊢
            omega
        have c1 : (xs.take at_.toNat).length + 1 ≤ 100000 := by have := tk at_; omega
        have c2 : (xs.take at_.toNat).length + 1 + (xs.drop (at_ + 1).toNat).length ≤ 100000 := by have := tk at_; have := dp (at_ + 1); omega
        simp only [T.wp_bind]
        refine T.wp_mono (ih k x (hx x hxm) (by omega) (by omega)) fun z hz => ?_
        cases z with
        | s i => exact hz.elim
        | v y =>
          simp -implicitDefEqProofs only [e_mC, e_mVar, e_mBin, e_kB1, e_kB2, e_kB3, e_kB4, e_kP, e_mUn, e_kU1, e_kU2, e_mNil, e_mCons, e_kC1, e_kC2, e_mB, e_kA1, e_kA2, e_mTup, e_mLst, e_kT1, e_kL1, e_kJ, e_kJb, e_mIf, e_kI1, e_mAndV, e_kV1, e_kV2, e_mOrV, e_kO1, e_kO2, e_mNotV, e_kN1, e_tOf, e_kQ1, e_tAndM, e_tOrM, e_kAn, e_kOr, e_tNotM, e_tYes, e_toB, e_looks0, e_looks1, e_lookv, e_looko, e_looks, e_Od, e_argv, e_argo, e_args, e_argsOf0, e_argsOf1, e_one, e_mCall, e_kF1, e_kF2, e_kF3, e_at0, e_at1, e_at2, e_at3, e_at4, e_at5, e_at6, e_at7, e_mIsi, e_mSl, e_kS1, e_kS2, e_kS3, e_oNone, e_oSome, e_sNext, e_sSeq, e_kSeq0, e_kSeq1, e_sIf, e_kIf, e_sRet, e_kRet, e_retv, e_reto, e_rets, e_sSet, e_kSt, e_wrO, e_wru, e_wrv, e_wrl, e_storv, e_dic0, e_dic1, e_lookd0, e_storo, e_stors, e_sFor, e_kFor, e_for0, e_for1, e_kBd, e_kGo0, e_kGo1, e_iSeq, e_iRng, e_gSet, e_mLc, e_kLc1, e_kLc2, e_wipe0, e_wipe1, e_frz0, e_frz1, e_frz, e_fnM, e_kFn0, e_kFn1, e_chain, e_put, e_own, bind_ite, wp_ite, bind_draw, bind_r, wp_ret, wp_draw, e_chk, bind_s, pools, O.toD, List.append_nil, List.nil_append, List.cons_append, List.length_cons, List.length_nil, List.replicate, List.getElem?_cons_zero, List.getElem?_cons_succ, List.set, slotsAll, slotsOf, List.flatMap_cons, List.flatMap_nil, Bool.false_eq_true, if_true, if_false, Bool.not_true, Bool.not_false, Nat.zero_add, Nat.le_refl, Nat.zero_le, isi_none, isi_bool, isi_int, isi_str, isi_list, isi_tuple, isi_dict, dIs, dIsNot, isNone, decide_eq_true_eq, Bool.not_eq_true, Nat.reduceLeDiff, Nat.reduceAdd, Nat.reduceSub, itemsOf, ite_self, dAdd_int, dSl_tup, cut_lo a0, cut_hi (show 0 ≤ at_ + 1 by omega), dAdd_tup (xs := xs.take at_.toNat) (ys := [y]) c1, dAdd_tup (xs := xs.take at_.toNat ++ [y]) (ys := xs.drop (at_ + 1).toNat) (by rw [List.length_append]; exact c2)]
          exact fin y hz.1 hz.2
        | o o =>
          obtain ⟨y, ho, hy⟩ := hz
          cases o with
          | pool => cases ho
          | dic kvs => cases ho; exact hy.1.nodict.elim
          | rng _ _ => cases ho
          | bor _ _ => cases ho; exact hy.1.nodict.elim
          | lst l =>
            cases ho
            simp -implicitDefEqProofs only [e_mC, e_mVar, e_mBin, e_kB1, e_kB2, e_kB3, e_kB4, e_kP, e_mUn, e_kU1, e_kU2, e_mNil, e_mCons, e_kC1, e_kC2, e_mB, e_kA1, e_kA2, e_mTup, e_mLst, e_kT1, e_kL1, e_kJ, e_kJb, e_mIf, e_kI1, e_mAndV, e_kV1, e_kV2, e_mOrV, e_kO1, e_kO2, e_mNotV, e_kN1, e_tOf, e_kQ1, e_tAndM, e_tOrM, e_kAn, e_kOr, e_tNotM, e_tYes, e_toB, e_looks0, e_looks1, e_lookv, e_looko, e_looks, e_Od, e_argv, e_argo, e_args, e_argsOf0, e_argsOf1, e_one, e_mCall, e_kF1, e_kF2, e_kF3, e_at0, e_at1, e_at2, e_at3, e_at4, e_at5, e_at6, e_at7, e_mIsi, e_mSl, e_kS1, e_kS2, e_kS3, e_oNone, e_oSome, e_sNext, e_sSeq, e_kSeq0, e_kSeq1, e_sIf, e_kIf, e_sRet, e_kRet, e_retv, e_reto, e_rets, e_sSet, e_kSt, e_wrO, e_wru, e_wrv, e_wrl, e_storv, e_dic0, e_dic1, e_lookd0, e_storo, e_stors, e_sFor, e_kFor, e_for0, e_for1, e_kBd, e_kGo0, e_kGo1, e_iSeq, e_iRng, e_gSet, e_mLc, e_kLc1, e_kLc2, e_wipe0, e_wipe1, e_frz0, e_frz1, e_frz, e_fnM, e_kFn0, e_kFn1, e_chain, e_put, e_own, bind_ite, wp_ite, bind_draw, bind_r, wp_ret, wp_draw, e_chk, bind_s, pools, O.toD, List.append_nil, List.nil_append, List.cons_append, List.length_cons, List.length_nil, List.replicate, List.getElem?_cons_zero, List.getElem?_cons_succ, List.set, slotsAll, slotsOf, List.flatMap_cons, List.flatMap_nil, Bool.false_eq_true, if_true, if_false, Bool.not_true, Bool.not_false, Nat.zero_add, Nat.le_refl, Nat.zero_le, isi_none, isi_bool, isi_int, isi_str, isi_list, isi_tuple, isi_dict, dIs, dIsNot, isNone, decide_eq_true_eq, Bool.not_eq_true, Nat.reduceLeDiff, Nat.reduceAdd, Nat.reduceSub, itemsOf, dAdd_int, dSl_tup, cut_lo a0, cut_hi (show 0 ≤ at_ + 1 by omega), dAdd_tup (xs := xs.take at_.toNat) (ys := [.list l]) c1, dAdd_tup (xs := xs.take at_.toNat ++ [.list l]) (ys := xs.drop (at_ + 1).toNat) (by rw [List.length_append]; exact c2)]
            exact fin _ hy.1 hy.2
      · refine ⟨by decide, fun m m0 m1 => ?_⟩
        split
        · refine ⟨by decide, fun i k0 k1 => ?_⟩
          obtain ⟨x, e, ok⟩ := odd _ (.tuple xs) i k0 k1
          simp -implicitDefEqProofs only [e, e_mC, e_mVar, e_mBin, e_kB1, e_kB2, e_kB3, e_kB4, e_kP, e_mUn, e_kU1, e_kU2, e_mNil, e_mCons, e_kC1, e_kC2, e_mB, e_kA1, e_kA2, e_mTup, e_mLst, e_kT1, e_kL1, e_kJ, e_kJb, e_mIf, e_kI1, e_mAndV, e_kV1, e_kV2, e_mOrV, e_kO1, e_kO2, e_mNotV, e_kN1, e_tOf, e_kQ1, e_tAndM, e_tOrM, e_kAn, e_kOr, e_tNotM, e_tYes, e_toB, e_looks0, e_looks1, e_lookv, e_looko, e_looks, e_Od, e_argv, e_argo, e_args, e_argsOf0, e_argsOf1, e_one, e_mCall, e_kF1, e_kF2, e_kF3, e_at0, e_at1, e_at2, e_at3, e_at4, e_at5, e_at6, e_at7, e_mIsi, e_mSl, e_kS1, e_kS2, e_kS3, e_oNone, e_oSome, e_sNext, e_sSeq, e_kSeq0, e_kSeq1, e_sIf, e_kIf, e_sRet, e_kRet, e_retv, e_reto, e_rets, e_sSet, e_kSt, e_wrO, e_wru, e_wrv, e_wrl, e_storv, e_dic0, e_dic1, e_lookd0, e_storo, e_stors, e_sFor, e_kFor, e_for0, e_for1, e_kBd, e_kGo0, e_kGo1, e_iSeq, e_iRng, e_gSet, e_mLc, e_kLc1, e_kLc2, e_wipe0, e_wipe1, e_frz0, e_frz1, e_frz, e_fnM, e_kFn0, e_kFn1, e_chain, e_put, e_own, bind_ite, wp_ite, bind_draw, bind_r, wp_ret, wp_draw, e_chk, bind_s, pools, O.toD, List.append_nil, List.nil_append, List.cons_append, List.length_cons, List.length_nil, List.replicate, List.getElem?_cons_zero, List.getElem?_cons_succ, List.set, slotsAll, slotsOf, List.flatMap_cons, List.flatMap_nil, Bool.false_eq_true, if_true, if_false, Bool.not_true, Bool.not_false, Nat.zero_add, Nat.le_refl, Nat.zero_le, isi_none, isi_bool, isi_int, isi_str, isi_list, isi_tuple, isi_dict, dIs, dIsNot, isNone, decide_eq_true_eq, Bool.not_eq_true, Nat.reduceLeDiff, Nat.reduceAdd, Nat.reduceSub, itemsOf]
          exact ok
        refine ⟨trivial, fun at_ a0 a1 => ?_⟩
        obtain ⟨x, ex, hxm, e⟩ := dIx_mem a0 a1
        have hwm := wtA_mem hxm
        have e1 : (at_ + 1).toNat = at_.toNat + 1 := by omega
        have c0 : (xs.take at_.toNat).length + (xs.drop (at_ + 1).toNat).length ≤ 100000 := by have := tk at_; have := dp (at_ + 1); omega
        have c1 : (xs.take at_.toNat).length + [x].length ≤ 100000 := by have := tk at_; simp only [List.length_cons, List.length_nil]; omega
        have c2 : (xs.take at_.toNat ++ [x]).length + (xs.drop at_.toNat).length ≤ 100000 := by
          have := tk at_; have := dp at_; rw [List.length_append]; simp only [List.length_cons, List.length_nil]; omega
        have sub : ∀ u, u ∈ xs → Bd (B + 2) (k + 1) u := fun u hu => (hx u hu).mono (by omega) (by omega)
        simp -implicitDefEqProofs only [e, e_mC, e_mVar, e_mBin, e_kB1, e_kB2, e_kB3, e_kB4, e_kP, e_mUn, e_kU1, e_kU2, e_mNil, e_mCons, e_kC1, e_kC2, e_mB, e_kA1, e_kA2, e_mTup, e_mLst, e_kT1, e_kL1, e_kJ, e_kJb, e_mIf, e_kI1, e_mAndV, e_kV1, e_kV2, e_mOrV, e_kO1, e_kO2, e_mNotV, e_kN1, e_tOf, e_kQ1, e_tAndM, e_tOrM, e_kAn, e_kOr, e_tNotM, e_tYes, e_toB, e_looks0, e_looks1, e_lookv, e_looko, e_looks, e_Od, e_argv, e_argo, e_args, e_argsOf0, e_argsOf1, e_one, e_mCall, e_kF1, e_kF2, e_kF3, e_at0, e_at1, e_at2, e_at3, e_at4, e_at5, e_at6, e_at7, e_mIsi, e_mSl, e_kS1, e_kS2, e_kS3, e_oNone, e_oSome, e_sNext, e_sSeq, e_kSeq0, e_kSeq1, e_sIf, e_kIf, e_sRet, e_kRet, e_retv, e_reto, e_rets, e_sSet, e_kSt, e_wrO, e_wru, e_wrv, e_wrl, e_storv, e_dic0, e_dic1, e_lookd0, e_storo, e_stors, e_sFor, e_kFor, e_for0, e_for1, e_kBd, e_kGo0, e_kGo1, e_iSeq, e_iRng, e_gSet, e_mLc, e_kLc1, e_kLc2, e_wipe0, e_wipe1, e_frz0, e_frz1, e_frz, e_fnM, e_kFn0, e_kFn1, e_chain, e_put, e_own, bind_ite, wp_ite, bind_draw, bind_r, wp_ret, wp_draw, e_chk, bind_s, pools, O.toD, List.append_nil, List.nil_append, List.cons_append, List.length_cons, List.length_nil, List.replicate, List.getElem?_cons_zero, List.getElem?_cons_succ, List.set, slotsAll, slotsOf, List.flatMap_cons, List.flatMap_nil, Bool.false_eq_true, if_true, if_false, Bool.not_true, Bool.not_false, Nat.zero_add, Nat.le_refl, Nat.zero_le, isi_none, isi_bool, isi_int, isi_str, isi_list, isi_tuple, isi_dict, dIs, dIsNot, isNone, decide_eq_true_eq, Bool.not_eq_true, Nat.reduceLeDiff, Nat.reduceAdd, Nat.reduceSub, itemsOf, dSl_tup, dAdd_int, cut_lo a0, cut_hi a0, cut_hi (show 0 ≤ at_ + 1 by omega), dAdd_tup c0, dAdd_tup c1, dAdd_tup c2]
        split
        · -- one item left out
          refine ⟨fun u hu => ?_, ?_⟩
          · rcases List.mem_append.mp hu with hu | hu
            · exact sub u (List.mem_of_mem_take hu)
            · exact sub u (List.mem_of_mem_drop hu)
          · simp only [wt, wtA_append]
            have := wtA_take at_.toNat xs; have := wtA_drop (at_ + 1).toNat xs
            omega
        split
        · -- one item twice
          refine ⟨fun u hu => ?_, ?_⟩
          · rcases List.mem_append.mp hu with hu | hu
            · rcases List.mem_append.mp hu with hu | hu
              · exact sub u (List.mem_of_mem_take hu)
              · rw [List.mem_singleton.mp hu]; exact sub x hxm
            · exact sub u (List.mem_of_mem_drop hu)
          · simp only [wt, wtA_append, wtA]
            have := wtA_take at_.toNat xs; have := wtA_drop at_.toNat xs
            omega
        split
        · exact ⟨.list xs, rfl, sub, by simp only [wt]; omega⟩
        refine ⟨trivial, fun ot o0 o1 => ?_⟩
        obtain ⟨y, ey, hym, e2⟩ := dIx_mem o0 o1
        have hwy := wtA_mem hym
        have l1 : ixN xs.length at_ = some at_.toNat := ixN_of a0 a1
        have l2 : ixN (xs.set at_.toNat y).length ot = some ot.toNat := by rw [List.length_set]; exact ixN_of o0 o1
        simp -implicitDefEqProofs only [e, e2, e_mC, e_mVar, e_mBin, e_kB1, e_kB2, e_kB3, e_kB4, e_kP, e_mUn, e_kU1, e_kU2, e_mNil, e_mCons, e_kC1, e_kC2, e_mB, e_kA1, e_kA2, e_mTup, e_mLst, e_kT1, e_kL1, e_kJ, e_kJb, e_mIf, e_kI1, e_mAndV, e_kV1, e_kV2, e_mOrV, e_kO1, e_kO2, e_mNotV, e_kN1, e_tOf, e_kQ1, e_tAndM, e_tOrM, e_kAn, e_kOr, e_tNotM, e_tYes, e_toB, e_looks0, e_looks1, e_lookv, e_looko, e_looks, e_Od, e_argv, e_argo, e_args, e_argsOf0, e_argsOf1, e_one, e_mCall, e_kF1, e_kF2, e_kF3, e_at0, e_at1, e_at2, e_at3, e_at4, e_at5, e_at6, e_at7, e_mIsi, e_mSl, e_kS1, e_kS2, e_kS3, e_oNone, e_oSome, e_sNext, e_sSeq, e_kSeq0, e_kSeq1, e_sIf, e_kIf, e_sRet, e_kRet, e_retv, e_reto, e_rets, e_sSet, e_kSt, e_wrO, e_wru, e_wrv, e_wrl, e_storv, e_dic0, e_dic1, e_lookd0, e_storo, e_stors, e_sFor, e_kFor, e_for0, e_for1, e_kBd, e_kGo0, e_kGo1, e_iSeq, e_iRng, e_gSet, e_mLc, e_kLc1, e_kLc2, e_wipe0, e_wipe1, e_frz0, e_frz1, e_frz, e_fnM, e_kFn0, e_kFn1, e_chain, e_put, e_own, bind_ite, wp_ite, bind_draw, bind_r, wp_ret, wp_draw, e_chk, bind_s, pools, O.toD, List.append_nil, List.nil_append, List.cons_append, List.length_cons, List.length_nil, List.replicate, List.getElem?_cons_zero, List.getElem?_cons_succ, List.set, slotsAll, slotsOf, List.flatMap_cons, List.flatMap_nil, Bool.false_eq_true, if_true, if_false, Bool.not_true, Bool.not_false, Nat.zero_add, Nat.le_refl, Nat.zero_le, isi_none, isi_bool, isi_int, isi_str, isi_list, isi_tuple, isi_dict, dIs, dIsNot, isNone, decide_eq_true_eq, Bool.not_eq_true, Nat.reduceLeDiff, Nat.reduceAdd, Nat.reduceSub, itemsOf, l1, l2, bTuple_list]
        refine ⟨fun u hu => ?_, ?_⟩
        · rcases List.mem_or_eq_of_mem_set hu with hu | rfl
          · rcases List.mem_or_eq_of_mem_set hu with hu | rfl
            · exact sub u hu
            · exact sub _ hym
          · exact sub _ hxm
        · simp only [wt]
          have := wtA_set x (xs.set at_.toNat y) ot.toNat
          have := wtA_set y xs at_.toNat
          omega
    | none =>
      simp -implicitDefEqProofs only [m_law_bent, e_mC, e_mVar, e_mBin, e_kB1, e_kB2, e_kB3, e_kB4, e_kP, e_mUn, e_kU1, e_kU2, e_mNil, e_mCons, e_kC1, e_kC2, e_mB, e_kA1, e_kA2, e_mTup, e_mLst, e_kT1, e_kL1, e_kJ, e_kJb, e_mIf, e_kI1, e_mAndV, e_kV1, e_kV2, e_mOrV, e_kO1, e_kO2, e_mNotV, e_kN1, e_tOf, e_kQ1, e_tAndM, e_tOrM, e_kAn, e_kOr, e_tNotM, e_tYes, e_toB, e_looks0, e_looks1, e_lookv, e_looko, e_looks, e_Od, e_argv, e_argo, e_args, e_argsOf0, e_argsOf1, e_one, e_mCall, e_kF1, e_kF2, e_kF3, e_at0, e_at1, e_at2, e_at3, e_at4, e_at5, e_at6, e_at7, e_mIsi, e_mSl, e_kS1, e_kS2, e_kS3, e_oNone, e_oSome, e_sNext, e_sSeq, e_kSeq0, e_kSeq1, e_sIf, e_kIf, e_sRet, e_kRet, e_retv, e_reto, e_rets, e_sSet, e_kSt, e_wrO, e_wru, e_wrv, e_wrl, e_storv, e_dic0, e_dic1, e_lookd0, e_storo, e_stors, e_sFor, e_kFor, e_for0, e_for1, e_kBd, e_kGo0, e_kGo1, e_iSeq, e_iRng, e_gSet, e_mLc, e_kLc1, e_kLc2, e_wipe0, e_wipe1, e_frz0, e_frz1, e_frz, e_fnM, e_kFn0, e_kFn1, e_chain, e_put, e_own, bind_ite, wp_ite, bind_draw, bind_r, wp_ret, wp_draw, e_chk, bind_s, pools, O.toD, List.append_nil, List.nil_append, List.cons_append, List.length_cons, List.length_nil, List.replicate, List.getElem?_cons_zero, List.getElem?_cons_succ, List.set, slotsAll, slotsOf, List.flatMap_cons, List.flatMap_nil, Bool.false_eq_true, if_true, if_false, Bool.not_true, Bool.not_false, Nat.zero_add, Nat.le_refl, Nat.zero_le, isi_none, isi_bool, isi_int, isi_str, isi_list, isi_tuple, isi_dict, dIs, dIsNot, isNone, decide_eq_true_eq, Bool.not_eq_true, Nat.reduceLeDiff, Nat.reduceAdd, Nat.reduceSub, itemsOf, whole_is, draw_lit l9, draw_lit l10, dEq_int, dNeg_int, dGt_int, dLt_int, isW]
      refine ⟨by decide, fun i h0 h1 => ?_⟩
      split
      · refine ⟨by decide, fun k k0 k1 => ?_⟩
        obtain ⟨x, e, ok⟩ := odd h .none k k0 k1
        simp -implicitDefEqProofs only [e, e_mC, e_mVar, e_mBin, e_kB1, e_kB2, e_kB3, e_kB4, e_kP, e_mUn, e_kU1, e_kU2, e_mNil, e_mCons, e_kC1, e_kC2, e_mB, e_kA1, e_kA2, e_mTup, e_mLst, e_kT1, e_kL1, e_kJ, e_kJb, e_mIf, e_kI1, e_mAndV, e_kV1, e_kV2, e_mOrV, e_kO1, e_kO2, e_mNotV, e_kN1, e_tOf, e_kQ1, e_tAndM, e_tOrM, e_kAn, e_kOr, e_tNotM, e_tYes, e_toB, e_looks0, e_looks1, e_lookv, e_looko, e_looks, e_Od, e_argv, e_argo, e_args, e_argsOf0, e_argsOf1, e_one, e_mCall, e_kF1, e_kF2, e_kF3, e_at0, e_at1, e_at2, e_at3, e_at4, e_at5, e_at6, e_at7, e_mIsi, e_mSl, e_kS1, e_kS2, e_kS3, e_oNone, e_oSome, e_sNext, e_sSeq, e_kSeq0, e_kSeq1, e_sIf, e_kIf, e_sRet, e_kRet, e_retv, e_reto, e_rets, e_sSet, e_kSt, e_wrO, e_wru, e_wrv, e_wrl, e_storv, e_dic0, e_dic1, e_lookd0, e_storo, e_stors, e_sFor, e_kFor, e_for0, e_for1, e_kBd, e_kGo0, e_kGo1, e_iSeq, e_iRng, e_gSet, e_mLc, e_kLc1, e_kLc2, e_wipe0, e_wipe1, e_frz0, e_frz1, e_frz, e_fnM, e_kFn0, e_kFn1, e_chain, e_put, e_own, bind_ite, wp_ite, bind_draw, bind_r, wp_ret, wp_draw, e_chk, bind_s, pools, O.toD, List.append_nil, List.nil_append, List.cons_append, List.length_cons, List.length_nil, List.replicate, List.getElem?_cons_zero, List.getElem?_cons_succ, List.set, slotsAll, slotsOf, List.flatMap_cons, List.flatMap_nil, Bool.false_eq_true, if_true, if_false, Bool.not_true, Bool.not_false, Nat.zero_add, Nat.le_refl, Nat.zero_le, isi_none, isi_bool, isi_int, isi_str, isi_list, isi_tuple, isi_dict, dIs, dIsNot, isNone, decide_eq_true_eq, Bool.not_eq_true, Nat.reduceLeDiff, Nat.reduceAdd, Nat.reduceSub, itemsOf]
        exact ok
      · split
        · exact pair h _ q
        · exact nil h _
    | bool b =>
      simp -implicitDefEqProofs only [m_law_bent, e_mC, e_mVar, e_mBin, e_kB1, e_kB2, e_kB3, e_kB4, e_kP, e_mUn, e_kU1, e_kU2, e_mNil, e_mCons, e_kC1, e_kC2, e_mB, e_kA1, e_kA2, e_mTup, e_mLst, e_kT1, e_kL1, e_kJ, e_kJb, e_mIf, e_kI1, e_mAndV, e_kV1, e_kV2, e_mOrV, e_kO1, e_kO2, e_mNotV, e_kN1, e_tOf, e_kQ1, e_tAndM, e_tOrM, e_kAn, e_kOr, e_tNotM, e_tYes, e_toB, e_looks0, e_looks1, e_lookv, e_looko, e_looks, e_Od, e_argv, e_argo, e_args, e_argsOf0, e_argsOf1, e_one, e_mCall, e_kF1, e_kF2, e_kF3, e_at0, e_at1, e_at2, e_at3, e_at4, e_at5, e_at6, e_at7, e_mIsi, e_mSl, e_kS1, e_kS2, e_kS3, e_oNone, e_oSome, e_sNext, e_sSeq, e_kSeq0, e_kSeq1, e_sIf, e_kIf, e_sRet, e_kRet, e_retv, e_reto, e_rets, e_sSet, e_kSt, e_wrO, e_wru, e_wrv, e_wrl, e_storv, e_dic0, e_dic1, e_lookd0, e_storo, e_stors, e_sFor, e_kFor, e_for0, e_for1, e_kBd, e_kGo0, e_kGo1, e_iSeq, e_iRng, e_gSet, e_mLc, e_kLc1, e_kLc2, e_wipe0, e_wipe1, e_frz0, e_frz1, e_frz, e_fnM, e_kFn0, e_kFn1, e_chain, e_put, e_own, bind_ite, wp_ite, bind_draw, bind_r, wp_ret, wp_draw, e_chk, bind_s, pools, O.toD, List.append_nil, List.nil_append, List.cons_append, List.length_cons, List.length_nil, List.replicate, List.getElem?_cons_zero, List.getElem?_cons_succ, List.set, slotsAll, slotsOf, List.flatMap_cons, List.flatMap_nil, Bool.false_eq_true, if_true, if_false, Bool.not_true, Bool.not_false, Nat.zero_add, Nat.le_refl, Nat.zero_le, isi_none, isi_bool, isi_int, isi_str, isi_list, isi_tuple, isi_dict, dIs, dIsNot, isNone, decide_eq_true_eq, Bool.not_eq_true, Nat.reduceLeDiff, Nat.reduceAdd, Nat.reduceSub, itemsOf, whole_is, draw_lit l9, draw_lit l10, dEq_int, dNeg_int, dGt_int, dLt_int, isW]
      refine ⟨by decide, fun i h0 h1 => ?_⟩
      split
      · refine ⟨by decide, fun k k0 k1 => ?_⟩
        obtain ⟨x, e, ok⟩ := odd h (.bool b) k k0 k1
        simp -implicitDefEqProofs only [e, e_mC, e_mVar, e_mBin, e_kB1, e_kB2, e_kB3, e_kB4, e_kP, e_mUn, e_kU1, e_kU2, e_mNil, e_mCons, e_kC1, e_kC2, e_mB, e_kA1, e_kA2, e_mTup, e_mLst, e_kT1, e_kL1, e_kJ, e_kJb, e_mIf, e_kI1, e_mAndV, e_kV1, e_kV2, e_mOrV, e_kO1, e_kO2, e_mNotV, e_kN1, e_tOf, e_kQ1, e_tAndM, e_tOrM, e_kAn, e_kOr, e_tNotM, e_tYes, e_toB, e_looks0, e_looks1, e_lookv, e_looko, e_looks, e_Od, e_argv, e_argo, e_args, e_argsOf0, e_argsOf1, e_one, e_mCall, e_kF1, e_kF2, e_kF3, e_at0, e_at1, e_at2, e_at3, e_at4, e_at5, e_at6, e_at7, e_mIsi, e_mSl, e_kS1, e_kS2, e_kS3, e_oNone, e_oSome, e_sNext, e_sSeq, e_kSeq0, e_kSeq1, e_sIf, e_kIf, e_sRet, e_kRet, e_retv, e_reto, e_rets, e_sSet, e_kSt, e_wrO, e_wru, e_wrv, e_wrl, e_storv, e_dic0, e_dic1, e_lookd0, e_storo, e_stors, e_sFor, e_kFor, e_for0, e_for1, e_kBd, e_kGo0, e_kGo1, e_iSeq, e_iRng, e_gSet, e_mLc, e_kLc1, e_kLc2, e_wipe0, e_wipe1, e_frz0, e_frz1, e_frz, e_fnM, e_kFn0, e_kFn1, e_chain, e_put, e_own, bind_ite, wp_ite, bind_draw, bind_r, wp_ret, wp_draw, e_chk, bind_s, pools, O.toD, List.append_nil, List.nil_append, List.cons_append, List.length_cons, List.length_nil, List.replicate, List.getElem?_cons_zero, List.getElem?_cons_succ, List.set, slotsAll, slotsOf, List.flatMap_cons, List.flatMap_nil, Bool.false_eq_true, if_true, if_false, Bool.not_true, Bool.not_false, Nat.zero_add, Nat.le_refl, Nat.zero_le, isi_none, isi_bool, isi_int, isi_str, isi_list, isi_tuple, isi_dict, dIs, dIsNot, isNone, decide_eq_true_eq, Bool.not_eq_true, Nat.reduceLeDiff, Nat.reduceAdd, Nat.reduceSub, itemsOf]
        exact ok
      · split
        · exact pair h _ q
        · exact nil h _
    | list ys =>
      simp -implicitDefEqProofs only [m_law_bent, e_mC, e_mVar, e_mBin, e_kB1, e_kB2, e_kB3, e_kB4, e_kP, e_mUn, e_kU1, e_kU2, e_mNil, e_mCons, e_kC1, e_kC2, e_mB, e_kA1, e_kA2, e_mTup, e_mLst, e_kT1, e_kL1, e_kJ, e_kJb, e_mIf, e_kI1, e_mAndV, e_kV1, e_kV2, e_mOrV, e_kO1, e_kO2, e_mNotV, e_kN1, e_tOf, e_kQ1, e_tAndM, e_tOrM, e_kAn, e_kOr, e_tNotM, e_tYes, e_toB, e_looks0, e_looks1, e_lookv, e_looko, e_looks, e_Od, e_argv, e_argo, e_args, e_argsOf0, e_argsOf1, e_one, e_mCall, e_kF1, e_kF2, e_kF3, e_at0, e_at1, e_at2, e_at3, e_at4, e_at5, e_at6, e_at7, e_mIsi, e_mSl, e_kS1, e_kS2, e_kS3, e_oNone, e_oSome, e_sNext, e_sSeq, e_kSeq0, e_kSeq1, e_sIf, e_kIf, e_sRet, e_kRet, e_retv, e_reto, e_rets, e_sSet, e_kSt, e_wrO, e_wru, e_wrv, e_wrl, e_storv, e_dic0, e_dic1, e_lookd0, e_storo, e_stors, e_sFor, e_kFor, e_for0, e_for1, e_kBd, e_kGo0, e_kGo1, e_iSeq, e_iRng, e_gSet, e_mLc, e_kLc1, e_kLc2, e_wipe0, e_wipe1, e_frz0, e_frz1, e_frz, e_fnM, e_kFn0, e_kFn1, e_chain, e_put, e_own, bind_ite, wp_ite, bind_draw, bind_r, wp_ret, wp_draw, e_chk, bind_s, pools, O.toD, List.append_nil, List.nil_append, List.cons_append, List.length_cons, List.length_nil, List.replicate, List.getElem?_cons_zero, List.getElem?_cons_succ, List.set, slotsAll, slotsOf, List.flatMap_cons, List.flatMap_nil, Bool.false_eq_true, if_true, if_false, Bool.not_true, Bool.not_false, Nat.zero_add, Nat.le_refl, Nat.zero_le, isi_none, isi_bool, isi_int, isi_str, isi_list, isi_tuple, isi_dict, dIs, dIsNot, isNone, decide_eq_true_eq, Bool.not_eq_true, Nat.reduceLeDiff, Nat.reduceAdd, Nat.reduceSub, itemsOf, whole_is, draw_lit l9, draw_lit l10, dEq_int, dNeg_int, dGt_int, dLt_int, isW]
      refine ⟨by decide, fun i h0 h1 => ?_⟩
      split
      · refine ⟨by decide, fun k k0 k1 => ?_⟩
        obtain ⟨x, e, ok⟩ := odd h (.list ys) k k0 k1
        simp -implicitDefEqProofs only [e, e_mC, e_mVar, e_mBin, e_kB1, e_kB2, e_kB3, e_kB4, e_kP, e_mUn, e_kU1, e_kU2, e_mNil, e_mCons, e_kC1, e_kC2, e_mB, e_kA1, e_kA2, e_mTup, e_mLst, e_kT1, e_kL1, e_kJ, e_kJb, e_mIf, e_kI1, e_mAndV, e_kV1, e_kV2, e_mOrV, e_kO1, e_kO2, e_mNotV, e_kN1, e_tOf, e_kQ1, e_tAndM, e_tOrM, e_kAn, e_kOr, e_tNotM, e_tYes, e_toB, e_looks0, e_looks1, e_lookv, e_looko, e_looks, e_Od, e_argv, e_argo, e_args, e_argsOf0, e_argsOf1, e_one, e_mCall, e_kF1, e_kF2, e_kF3, e_at0, e_at1, e_at2, e_at3, e_at4, e_at5, e_at6, e_at7, e_mIsi, e_mSl, e_kS1, e_kS2, e_kS3, e_oNone, e_oSome, e_sNext, e_sSeq, e_kSeq0, e_kSeq1, e_sIf, e_kIf, e_sRet, e_kRet, e_retv, e_reto, e_rets, e_sSet, e_kSt, e_wrO, e_wru, e_wrv, e_wrl, e_storv, e_dic0, e_dic1, e_lookd0, e_storo, e_stors, e_sFor, e_kFor, e_for0, e_for1, e_kBd, e_kGo0, e_kGo1, e_iSeq, e_iRng, e_gSet, e_mLc, e_kLc1, e_kLc2, e_wipe0, e_wipe1, e_frz0, e_frz1, e_frz, e_fnM, e_kFn0, e_kFn1, e_chain, e_put, e_own, bind_ite, wp_ite, bind_draw, bind_r, wp_ret, wp_draw, e_chk, bind_s, pools, O.toD, List.append_nil, List.nil_append, List.cons_append, List.length_cons, List.length_nil, List.replicate, List.getElem?_cons_zero, List.getElem?_cons_succ, List.set, slotsAll, slotsOf, List.flatMap_cons, List.flatMap_nil, Bool.false_eq_true, if_true, if_false, Bool.not_true, Bool.not_false, Nat.zero_add, Nat.le_refl, Nat.zero_le, isi_none, isi_bool, isi_int, isi_str, isi_list, isi_tuple, isi_dict, dIs, dIsNot, isNone, decide_eq_true_eq, Bool.not_eq_true, Nat.reduceLeDiff, Nat.reduceAdd, Nat.reduceSub, itemsOf]
        exact ok
      · split
        · exact pair h _ q
        · exact nil h _
    | dict kvs => exact q.nodict.elim
    | int j => 
      simp -implicitDefEqProofs only [m_law_bent, e_mC, e_mVar, e_mBin, e_kB1, e_kB2, e_kB3, e_kB4, e_kP, e_mUn, e_kU1, e_kU2, e_mNil, e_mCons, e_kC1, e_kC2, e_mB, e_kA1, e_kA2, e_mTup, e_mLst, e_kT1, e_kL1, e_kJ, e_kJb, e_mIf, e_kI1, e_mAndV, e_kV1, e_kV2, e_mOrV, e_kO1, e_kO2, e_mNotV, e_kN1, e_tOf, e_kQ1, e_tAndM, e_tOrM, e_kAn, e_kOr, e_tNotM, e_tYes, e_toB, e_looks0, e_looks1, e_lookv, e_looko, e_looks, e_Od, e_argv, e_argo, e_args, e_argsOf0, e_argsOf1, e_one, e_mCall, e_kF1, e_kF2, e_kF3, e_at0, e_at1, e_at2, e_at3, e_at4, e_at5, e_at6, e_at7, e_mIsi, e_mSl, e_kS1, e_kS2, e_kS3, e_oNone, e_oSome, e_sNext, e_sSeq, e_kSeq0, e_kSeq1, e_sIf, e_kIf, e_sRet, e_kRet, e_retv, e_reto, e_rets, e_sSet, e_kSt, e_wrO, e_wru, e_wrv, e_wrl, e_storv, e_dic0, e_dic1, e_lookd0, e_storo, e_stors, e_sFor, e_kFor, e_for0, e_for1, e_kBd, e_kGo0, e_kGo1, e_iSeq, e_iRng, e_gSet, e_mLc, e_kLc1, e_kLc2, e_wipe0, e_wipe1, e_frz0, e_frz1, e_frz, e_fnM, e_kFn0, e_kFn1, e_chain, e_put, e_own, bind_ite, wp_ite, bind_draw, bind_r, wp_ret, wp_draw, e_chk, bind_s, pools, O.toD, List.append_nil, List.nil_append, List.cons_append, List.length_cons, List.length_nil, List.replicate, List.getElem?_cons_zero, List.getElem?_cons_succ, List.set, slotsAll, slotsOf, List.flatMap_cons, List.flatMap_nil, Bool.false_eq_true, if_true, if_false, Bool.not_true, Bool.not_false, Nat.zero_add, Nat.le_refl, Nat.zero_le, isi_none, isi_bool, isi_int, isi_str, isi_list, isi_tuple, isi_dict, dIs, dIsNot, isNone, decide_eq_true_eq, Bool.not_eq_true, Nat.reduceLeDiff, Nat.reduceAdd, Nat.reduceSub, itemsOf, whole_is, draw_lit l9, draw_lit l10, draw_lit l4, dEq_int, dNeg_int, dGt_int, dLt_int, isW]
      refine ⟨by decide, fun i h0 h1 => ?_⟩
      split
      · refine ⟨by decide, fun k k0 k1 => ?_⟩
        obtain ⟨x, e, ok⟩ := odd h (.int j) k k0 k1
        simp -implicitDefEqProofs only [e, e_mC, e_mVar, e_mBin, e_kB1, e_kB2, e_kB3, e_kB4, e_kP, e_mUn, e_kU1, e_kU2, e_mNil, e_mCons, e_kC1, e_kC2, e_mB, e_kA1, e_kA2, e_mTup, e_mLst, e_kT1, e_kL1, e_kJ, e_kJb, e_mIf, e_kI1, e_mAndV, e_kV1, e_kV2, e_mOrV, e_kO1, e_kO2, e_mNotV, e_kN1, e_tOf, e_kQ1, e_tAndM, e_tOrM, e_kAn, e_kOr, e_tNotM, e_tYes, e_toB, e_looks0, e_looks1, e_lookv, e_looko, e_looks, e_Od, e_argv, e_argo, e_args, e_argsOf0, e_argsOf1, e_one, e_mCall, e_kF1, e_kF2, e_kF3, e_at0, e_at1, e_at2, e_at3, e_at4, e_at5, e_at6, e_at7, e_mIsi, e_mSl, e_kS1, e_kS2, e_kS3, e_oNone, e_oSome, e_sNext, e_sSeq, e_kSeq0, e_kSeq1, e_sIf, e_kIf, e_sRet, e_kRet, e_retv, e_reto, e_rets, e_sSet, e_kSt, e_wrO, e_wru, e_wrv, e_wrl, e_storv, e_dic0, e_dic1, e_lookd0, e_storo, e_stors, e_sFor, e_kFor, e_for0, e_for1, e_kBd, e_kGo0, e_kGo1, e_iSeq, e_iRng, e_gSet, e_mLc, e_kLc1, e_kLc2, e_wipe0, e_wipe1, e_frz0, e_frz1, e_frz, e_fnM, e_kFn0, e_kFn1, e_chain, e_put, e_own, bind_ite, wp_ite, bind_draw, bind_r, wp_ret, wp_draw, e_chk, bind_s, pools, O.toD, List.append_nil, List.nil_append, List.cons_append, List.length_cons, List.length_nil, List.replicate, List.getElem?_cons_zero, List.getElem?_cons_succ, List.set, slotsAll, slotsOf, List.flatMap_cons, List.flatMap_nil, Bool.false_eq_true, if_true, if_false, Bool.not_true, Bool.not_false, Nat.zero_add, Nat.le_refl, Nat.zero_le, isi_none, isi_bool, isi_int, isi_str, isi_list, isi_tuple, isi_dict, dIs, dIsNot, isNone, decide_eq_true_eq, Bool.not_eq_true, Nat.reduceLeDiff, Nat.reduceAdd, Nat.reduceSub, itemsOf]
        exact ok
      · refine ⟨by decide, fun k k0 k1 => ?_⟩
        obtain ⟨x, _, hx, e⟩ := dIx_mem (xs := [.int 1, .int (-1), .int 2, .int 0]) k0 k1
        have all : ∀ x ∈ ([.int 1, .int (-1), .int 2, .int 0] : List DL.D), ∃ i : Int, x = .int i ∧ i.natAbs ≤ 2 := List.forall_mem_cons.mpr ⟨⟨_, rfl, by decide⟩, List.forall_mem_cons.mpr ⟨⟨_, rfl, by decide⟩, List.forall_mem_cons.mpr ⟨⟨_, rfl, by decide⟩, List.forall_mem_cons.mpr ⟨⟨_, rfl, by decide⟩, fun _ z => nomatch z⟩⟩⟩⟩
        obtain ⟨u, rfl, hu⟩ := all x hx
        simp -implicitDefEqProofs only [e, e_mC, e_mVar, e_mBin, e_kB1, e_kB2, e_kB3, e_kB4, e_kP, e_mUn, e_kU1, e_kU2, e_mNil, e_mCons, e_kC1, e_kC2, e_mB, e_kA1, e_kA2, e_mTup, e_mLst, e_kT1, e_kL1, e_kJ, e_kJb, e_mIf, e_kI1, e_mAndV, e_kV1, e_kV2, e_mOrV, e_kO1, e_kO2, e_mNotV, e_kN1, e_tOf, e_kQ1, e_tAndM, e_tOrM, e_kAn, e_kOr, e_tNotM, e_tYes, e_toB, e_looks0, e_looks1, e_lookv, e_looko, e_looks, e_Od, e_argv, e_argo, e_args, e_argsOf0, e_argsOf1, e_one, e_mCall, e_kF1, e_kF2, e_kF3, e_at0, e_at1, e_at2, e_at3, e_at4, e_at5, e_at6, e_at7, e_mIsi, e_mSl, e_kS1, e_kS2, e_kS3, e_oNone, e_oSome, e_sNext, e_sSeq, e_kSeq0, e_kSeq1, e_sIf, e_kIf, e_sRet, e_kRet, e_retv, e_reto, e_rets, e_sSet, e_kSt, e_wrO, e_wru, e_wrv, e_wrl, e_storv, e_dic0, e_dic1, e_lookd0, e_storo, e_stors, e_sFor, e_kFor, e_for0, e_for1, e_kBd, e_kGo0, e_kGo1, e_iSeq, e_iRng, e_gSet, e_mLc, e_kLc1, e_kLc2, e_wipe0, e_wipe1, e_frz0, e_frz1, e_frz, e_fnM, e_kFn0, e_kFn1, e_chain, e_put, e_own, bind_ite, wp_ite, bind_draw, bind_r, wp_ret, wp_draw, e_chk, bind_s, pools, O.toD, List.append_nil, List.nil_append, List.cons_append, List.length_cons, List.length_nil, List.replicate, List.getElem?_cons_zero, List.getElem?_cons_succ, List.set, slotsAll, slotsOf, List.flatMap_cons, List.flatMap_nil, Bool.false_eq_true, if_true, if_false, Bool.not_true, Bool.not_false, Nat.zero_add, Nat.le_refl, Nat.zero_le, isi_none, isi_bool, isi_int, isi_str, isi_list, isi_tuple, isi_dict, dIs, dIsNot, isNone, decide_eq_true_eq, Bool.not_eq_true, Nat.reduceLeDiff, Nat.reduceAdd, Nat.reduceSub, itemsOf, dAdd_int]
        refine ⟨.int ?_, by simp only [wt]; omega⟩
        have := q.int_inv
        omega
    | str z =>
      have hz : 10 * z.length + 8 ≤ 10000 := by simpa only [wt] using hw
      have hza : z.length + Str.length "a" ≤ 100000 := by have : Str.length "a" = 1 := rfl; omega
      have hzA : z.length + Str.length "A" ≤ 100000 := by have : Str.length "A" = 1 := rfl; omega
      have hzs : z.length + Str.length " " ≤ 100000 := by have : Str.length " " = 1 := rfl; omega
      have hz0 : z.length ≤ 100000 := by omega
      simp -implicitDefEqProofs only [m_law_bent, e_mC, e_mVar, e_mBin, e_kB1, e_kB2, e_kB3, e_kB4, e_kP, e_mUn, e_kU1, e_kU2, e_mNil, e_mCons, e_kC1, e_kC2, e_mB, e_kA1, e_kA2, e_mTup, e_mLst, e_kT1, e_kL1, e_kJ, e_kJb, e_mIf, e_kI1, e_mAndV, e_kV1, e_kV2, e_mOrV, e_kO1, e_kO2, e_mNotV, e_kN1, e_tOf, e_kQ1, e_tAndM, e_tOrM, e_kAn, e_kOr, e_tNotM, e_tYes, e_toB, e_looks0, e_looks1, e_lookv, e_looko, e_looks, e_Od, e_argv, e_argo, e_args, e_argsOf0, e_argsOf1, e_one, e_mCall, e_kF1, e_kF2, e_kF3, e_at0, e_at1, e_at2, e_at3, e_at4, e_at5, e_at6, e_at7, e_mIsi, e_mSl, e_kS1, e_kS2, e_kS3, e_oNone, e_oSome, e_sNext, e_sSeq, e_kSeq0, e_kSeq1, e_sIf, e_kIf, e_sRet, e_kRet, e_retv, e_reto, e_rets, e_sSet, e_kSt, e_wrO, e_wru, e_wrv, e_wrl, e_storv, e_dic0, e_dic1, e_lookd0, e_storo, e_stors, e_sFor, e_kFor, e_for0, e_for1, e_kBd, e_kGo0, e_kGo1, e_iSeq, e_iRng, e_gSet, e_mLc, e_kLc1, e_kLc2, e_wipe0, e_wipe1, e_frz0, e_frz1, e_frz, e_fnM, e_kFn0, e_kFn1, e_chain, e_put, e_own, bind_ite, wp_ite, bind_draw, bind_r, wp_ret, wp_draw, e_chk, bind_s, pools, O.toD, List.append_nil, List.nil_append, List.cons_append, List.length_cons, List.length_nil, List.replicate, List.getElem?_cons_zero, List.getElem?_cons_succ, List.set, slotsAll, slotsOf, List.flatMap_cons, List.flatMap_nil, Bool.false_eq_true, if_true, if_false, Bool.not_true, Bool.not_false, Nat.zero_add, Nat.le_refl, Nat.zero_le, isi_none, isi_bool, isi_int, isi_str, isi_list, isi_tuple, isi_dict, dIs, dIsNot, isNone, decide_eq_true_eq, Bool.not_eq_true, Nat.reduceLeDiff, Nat.reduceAdd, Nat.reduceSub, itemsOf, whole_is, draw_lit l9, draw_lit l10, draw_lit l4, draw_lit l5, dEq_int, dNeg_int, dGt_int, dLt_int, isW, dAdd_str, hza, hzA, hzs, hz0, dSl_str]
      refine ⟨by decide, fun i h0 h1 => ?_⟩
      split
      · refine ⟨by decide, fun k k0 k1 => ?_⟩
        obtain ⟨x, e, ok⟩ := odd h (.str z) k k0 k1
        simp -implicitDefEqProofs only [e, e_mC, e_mVar, e_mBin, e_kB1, e_kB2, e_kB3, e_kB4, e_kP, e_mUn, e_kU1, e_kU2, e_mNil, e_mCons, e_kC1, e_kC2, e_mB, e_kA1, e_kA2, e_mTup, e_mLst, e_kT1, e_kL1, e_kJ, e_kJb, e_mIf, e_kI1, e_mAndV, e_kV1, e_kV2, e_mOrV, e_kO1, e_kO2, e_mNotV, e_kN1, e_tOf, e_kQ1, e_tAndM, e_tOrM, e_kAn, e_kOr, e_tNotM, e_tYes, e_toB, e_looks0, e_looks1, e_lookv, e_looko, e_looks, e_Od, e_argv, e_argo, e_args, e_argsOf0, e_argsOf1, e_one, e_mCall, e_kF1, e_kF2, e_kF3, e_at0, e_at1, e_at2, e_at3, e_at4, e_at5, e_at6, e_at7, e_mIsi, e_mSl, e_kS1, e_kS2, e_kS3, e_oNone, e_oSome, e_sNext, e_sSeq, e_kSeq0, e_kSeq1, e_sIf, e_kIf, e_sRet, e_kRet, e_retv, e_reto, e_rets, e_sSet, e_kSt, e_wrO, e_wru, e_wrv, e_wrl, e_storv, e_dic0, e_dic1, e_lookd0, e_storo, e_stors, e_sFor, e_kFor, e_for0, e_for1, e_kBd, e_kGo0, e_kGo1, e_iSeq, e_iRng, e_gSet, e_mLc, e_kLc1, e_kLc2, e_wipe0, e_wipe1, e_frz0, e_frz1, e_frz, e_fnM, e_kFn0, e_kFn1, e_chain, e_put, e_own, bind_ite, wp_ite, bind_draw, bind_r, wp_ret, wp_draw, e_chk, bind_s, pools, O.toD, List.append_nil, List.nil_append, List.cons_append, List.length_cons, List.length_nil, List.replicate, List.getElem?_cons_zero, List.getElem?_cons_succ, List.set, slotsAll, slotsOf, List.flatMap_cons, List.flatMap_nil, Bool.false_eq_true, if_true, if_false, Bool.not_true, Bool.not_false, Nat.zero_add, Nat.le_refl, Nat.zero_le, isi_none, isi_bool, isi_int, isi_str, isi_list, isi_tuple, isi_dict, dIs, dIsNot, isNone, decide_eq_true_eq, Bool.not_eq_true, Nat.reduceLeDiff, Nat.reduceAdd, Nat.reduceSub, itemsOf]
        exact ok
      · refine ⟨by decide, fun k k0 k1 => ?_⟩
        obtain ⟨x, _, hx, e⟩ := dIx_mem (xs := [.str (z ++ "a"), .str (cutS z (some 1) none), .str (z ++ "A"), .str (z ++ " "), .str (cutS z none (some 1))]) k0 k1
        have hs := q.str_inv
        have one : ∀ w : Str, strOk w → w.length ≤ 1 → Bd (B + 2) (h + 1) (.str (z ++ w)) ∧ wt (.str (z ++ w)) ≤ 3 * wt (.str z) + 200 := fun w hw hl => by
          refine ⟨.str (strOk_app hs hw), ?_⟩
          simp only [wt, strLen_append]; omega
        have cut : ∀ lo hi, Bd (B + 2) (h + 1) (.str (cutS z lo hi)) ∧ wt (.str (cutS z lo hi)) ≤ 3 * wt (.str z) + 200 := fun lo hi => by
          refine ⟨.str fun c hc => ?_, ?_⟩
          · unfold cutS at hc
            exact hs c (List.mem_of_mem_drop (List.mem_of_mem_take (by simpa using hc)))
          · have := cutS_length z lo hi
            simp only [wt]; omega
        have all : ∀ x ∈ ([.str (z ++ "a"), .str (cutS z (some 1) none), .str (z ++ "A"), .str (z ++ " "), .str (cutS z none (some 1))] : List DL.D), Bd (B + 2) (h + 1) x ∧ wt x ≤ 3 * wt (.str z) + 200 :=
          List.forall_mem_cons.mpr ⟨one _ (by unfold strOk; decide) (by decide), List.forall_mem_cons.mpr ⟨cut _ _, List.forall_mem_cons.mpr ⟨one _ (by unfold strOk; decide) (by decide), List.forall_mem_cons.mpr ⟨one _ (by unfold strOk; decide) (by decide), List.forall_mem_cons.mpr ⟨cut _ _, fun _ z => nomatch z⟩⟩⟩⟩⟩
        simp -implicitDefEqProofs only [e, e_mC, e_mVar, e_mBin, e_kB1, e_kB2, e_kB3, e_kB4, e_kP, e_mUn, e_kU1, e_kU2, e_mNil, e_mCons, e_kC1, e_kC2, e_mB, e_kA1, e_kA2, e_mTup, e_mLst, e_kT1, e_kL1, e_kJ, e_kJb, e_mIf, e_kI1, e_mAndV, e_kV1, e_kV2, e_mOrV, e_kO1, e_kO2, e_mNotV, e_kN1, e_tOf, e_kQ1, e_tAndM, e_tOrM, e_kAn, e_kOr, e_tNotM, e_tYes, e_toB, e_looks0, e_looks1, e_lookv, e_looko, e_looks, e_Od, e_argv, e_argo, e_args, e_argsOf0, e_argsOf1, e_one, e_mCall, e_kF1, e_kF2, e_kF3, e_at0, e_at1, e_at2, e_at3, e_at4, e_at5, e_at6, e_at7, e_mIsi, e_mSl, e_kS1, e_kS2, e_kS3, e_oNone, e_oSome, e_sNext, e_sSeq, e_kSeq0, e_kSeq1, e_sIf, e_kIf, e_sRet, e_kRet, e_retv, e_reto, e_rets, e_sSet, e_kSt, e_wrO, e_wru, e_wrv, e_wrl, e_storv, e_dic0, e_dic1, e_lookd0, e_storo, e_stors, e_sFor, e_kFor, e_for0, e_for1, e_kBd, e_kGo0, e_kGo1, e_iSeq, e_iRng, e_gSet, e_mLc, e_kLc1, e_kLc2, e_wipe0, e_wipe1, e_frz0, e_frz1, e_frz, e_fnM, e_kFn0, e_kFn1, e_chain, e_put, e_own, bind_ite, wp_ite, bind_draw, bind_r, wp_ret, wp_draw, e_chk, bind_s, pools, O.toD, List.append_nil, List.nil_append, List.cons_append, List.length_cons, List.length_nil, List.replicate, List.getElem?_cons_zero, List.getElem?_cons_succ, List.set, slotsAll, slotsOf, List.flatMap_cons, List.flatMap_nil, Bool.false_eq_true, if_true, if_false, Bool.not_true, Bool.not_false, Nat.zero_add, Nat.le_refl, Nat.zero_le, isi_none, isi_bool, isi_int, isi_str, isi_list, isi_tuple, isi_dict, dIs, dIsNot, isNone, decide_eq_true_eq, Bool.not_eq_true, Nat.reduceLeDiff, Nat.reduceAdd, Nat.reduceSub, itemsOf]
        exact all x hx
end DL

namespace DL
open PySem PySem.Spec PyProof.Rows L2
open Sc
inductive All2 (P : DL.D → DL.D → Prop) : List DL.D → List DL.D → Prop
  | nil : All2 P [] []
  | cons {x y : DL.D} {xs ys : List DL.D} : P x y → All2 P xs ys → All2 P (x :: xs) (y :: ys)
theorem All2.len {P : DL.D → DL.D → Prop} {xs ys : List DL.D} (h : All2 P xs ys) : ys.length = xs.length := by
  induction h with
  | nil => rfl
  | cons _ _ ih => rw [List.length_cons, List.length_cons, ih]
theorem All2.mem {P : DL.D → DL.D → Prop} {xs ys : List DL.D} (h : All2 P xs ys) : ∀ y ∈ ys, ∃ x ∈ xs, P x y := by
  induction h with
  | nil => exact fun _ z => nomatch z
  | cons p _ ih =>
    intro z hz
    rcases List.mem_cons.mp hz with rfl | hz
    · exact ⟨_, List.mem_cons_self .., p⟩
    · obtain ⟨x, hx, q⟩ := ih z hz
      exact ⟨x, List.mem_cons_of_mem _ hx, q⟩
theorem All2.wt {P : DL.D → DL.D → Prop} {xs ys : List DL.D} (h : All2 P xs ys) (hw : ∀ x y, P x y → DL.wt y ≤ DL.wt x) : wtA ys ≤ wtA xs := by
  induction h with
  | nil => exact Nat.le_refl _
  | cons p _ ih => rw [wtA, wtA]; have := hw _ _ p; omega
section
variable {g : MG} {mt : MT} {m : M} {vs : List Nat} {σ : DL.Env}
theorem lc_none : ∀ (ds : List DL.D), (∀ d ∈ ds, ∃ σ1, g d σ = .ret σ1 ∧ mt σ1 = .ret (false, []) ∧ mwipe σ1 vs = σ) → mLcGo g mt m vs ds σ = .ret ([], []) := by
  intro ds
  induction ds with
  | nil => intro _; rfl
  | cons d ds ih =>
    intro h
    obtain ⟨σ1, h1, h2, h3⟩ := h d (List.mem_cons_self ..)
    unfold mLcGo
    rw [h1, bind_r, h2, bind_r]
    rw [if_neg (by decide)]
    simp only [frz_nil, h3]
    rw [ih fun x hx => h x (List.mem_cons_of_mem _ hx)]
    rfl
/-- each item is kept or not; what is made says nothing new -/
theorem lc_pure {c : DL.D → Bool} {f : DL.D → DL.D} : ∀ (ds : List DL.D), (∀ d ∈ ds, ∃ σ1, g d σ = .ret σ1 ∧ mt σ1 = .ret (c d, []) ∧ mwipe σ1 vs = σ ∧ (c d = true → m σ1 = .ret (.v (f d), []))) → mLcGo g mt m vs ds σ = .ret ((ds.filter c).map f, []) := by
  intro ds
  induction ds with
  | nil => intro _; rfl
  | cons d ds ih =>
    intro h
    obtain ⟨σ1, h1, h2, h3, h4⟩ := h d (List.mem_cons_self ..)
    have ih := ih fun x hx => h x (List.mem_cons_of_mem _ hx)
    unfold mLcGo
    rw [h1, bind_r, h2, bind_r]
    by_cases hc : c d = true
    · rw [if_pos hc, frz_nil, h4 hc, bind_r]
      simp only [frz_nil, e_lookv, bind_r, slotsOf, List.append_nil, List.nil_append, h3]
      rw [ih, List.filter_cons_of_pos hc]
      rfl
    · rw [if_neg hc]
      simp only [frz_nil, h3]
      rw [ih, List.filter_cons_of_neg hc]
      rfl
theorem lc_wpS {P : DL.D → DL.D → Prop} {S : Nat → Prop} : ∀ (ds : List DL.D), (∀ d ∈ ds, ∃ σ1, g d σ = .ret σ1 ∧ mt σ1 = .ret (true, []) ∧ (m σ1).wp fun q => ∃ y, look (frz σ1 q.2) q.1 = .ret y ∧ P d y ∧ mwipe (frz σ1 (q.2 ++ slotsOf q.1)) vs = σ ∧ ∀ i ∈ q.2 ++ slotsOf q.1, S i) →
    (mLcGo g mt m vs ds σ).wp fun z => All2 P ds z.1 ∧ ∀ i ∈ z.2, S i := by
  intro ds
  induction ds with
  | nil => intro _; exact ⟨All2.nil, fun _ z => nomatch z⟩
  | cons d ds ih =>
    intro h
    obtain ⟨σ1, h1, h2, h3⟩ := h d (List.mem_cons_self ..)
    have ih := ih fun x hx => h x (List.mem_cons_of_mem _ hx)
    unfold mLcGo
    rw [h1, bind_r, h2, bind_r, if_pos rfl, frz_nil, T.wp_bind]
    refine T.wp_mono h3 fun q ⟨y, e, p, w, hS⟩ => ?_
    rw [e, bind_r]
    simp only [List.nil_append]
    rw [w, T.wp_bind]
    exact T.wp_mono ih fun z hz => ⟨.cons p hz.1, fun i hi => (List.mem_append.mp hi).elim (hS i) (hz.2 i)⟩
theorem lc_wp {P : DL.D → DL.D → Prop} (ds : List DL.D) (h : ∀ d ∈ ds, ∃ σ1, g d σ = .ret σ1 ∧ mt σ1 = .ret (true, []) ∧ (m σ1).wp fun q => ∃ y, look (frz σ1 q.2) q.1 = .ret y ∧ P d y ∧ mwipe (frz σ1 (q.2 ++ slotsOf q.1)) vs = σ) :
    (mLcGo g mt m vs ds σ).wp fun z => All2 P ds z.1 :=
  T.wp_mono (lc_wpS (S := fun _ => True) ds fun d hd => by
    obtain ⟨σ1, a, b, c⟩ := h d hd
    exact ⟨σ1, a, b, T.wp_mono c fun q ⟨y, e1, e2, e3⟩ => ⟨y, e1, e2, e3, fun _ _ => trivial⟩⟩) fun z hz => hz.1
theorem for_wp {a : MS} {I : DL.Env → Prop} : ∀ (ds : List DL.D) (σ : DL.Env), I σ → (∀ d ∈ ds, ∀ σ, I σ → ∃ σ1, g d σ = .ret σ1 ∧ (a σ1).wp fun p => p.1 = .nx ∧ I p.2) → (sForGo g a ds σ).wp fun p => p.1 = .nx ∧ I p.2 := by
  intro ds
  induction ds with
  | nil => intro σ h _; exact ⟨rfl, h⟩
  | cons d ds ih =>
    intro σ hI h
    obtain ⟨σ1, h1, h2⟩ := h d (List.mem_cons_self ..) σ hI
    unfold sForGo
    rw [h1, bind_r, T.wp_bind]
    refine T.wp_mono h2 fun p ⟨e, hI'⟩ => ?_
    rw [e]
    exact ih p.2 hI' fun x hx => h x (List.mem_cons_of_mem _ hx)
end
/-- nothing of one's own in the slots: nothing freezes -/
theorem frz_plain {σ : DL.Env} (h : ∀ (i : Nat) (x : O), σ[i]? = some (Sl.o x) → x = O.pool) (k : List Nat) : frz σ k = σ := by
  have one : ∀ i, frz1 σ i = σ := fun i => by
    unfold frz1
    split
    · rename_i x hx
      rw [h i x hx]; rfl
    · rfl
  induction k with
  | nil => rfl
  | cons i k ih => show frz (frz1 σ i) k = σ; rw [one, ih]
theorem frz_one {σ : DL.Env} {j : Nat} (h : frz1 σ j = σ) : ∀ (k : List Nat), (∀ i ∈ k, i = j) → frz σ k = σ
  | [], _ => rfl
  | i :: k, hk => by
    show frz (frz1 σ i) k = σ
    rw [hk i (List.mem_cons_self ..), h]
    exact frz_one h k fun x hx => hk x (List.mem_cons_of_mem _ hx)
theorem rng_mem {n : Nat} {d : DL.D} (h : d ∈ rngD 0 n) : ∃ i : Nat, i < n ∧ d = .int i := by
  unfold rngD at h
  obtain ⟨i, hi, rfl⟩ := List.mem_map.mp h
  exact ⟨i, List.mem_range.mp hi, by rw [Int.zero_add]⟩
theorem rng1_nat {n : Nat} (h : n ≤ 1000000) : rng1 [.int n] = .ret (rngD 0 n) := by
  show (if big (n : Int) = true then T.ret (rngD 0 (n : Int).toNat) else .stop) = _
  rw [if_pos (by unfold big; exact decide_eq_true (by omega)), Int.toNat_natCast]
theorem dIx_listN {xs : List DL.D} {i : Nat} {x : DL.D} (h : xs[i]? = some x) : dIx (.list xs) (.int i) = .ret (.v x) := by
  show (match atI xs i with | some x => T.ret (R.v x) | none => .stop) = _
  rw [atI_nat h]
theorem same_self {B : Nat} : ∀ (n h : Nat) (d : DL.D), Bd B h d → h < n → wt d ≤ 100000 → m_law_same n [.v d, .v d] = .ret (.v (.bool true)) := by
  intro n
  induction n with
  | zero => intro h d _ hh; omega
  | succ n ih =>
    intro h d q hh hw
    cases d with
    | none => simp -implicitDefEqProofs only [m_law_same, e_mC, e_mVar, e_mBin, e_kB1, e_kB2, e_kB3, e_kB4, e_kP, e_mUn, e_kU1, e_kU2, e_mNil, e_mCons, e_kC1, e_kC2, e_mB, e_kA1, e_kA2, e_mTup, e_mLst, e_kT1, e_kL1, e_kJ, e_kJb, e_mIf, e_kI1, e_mAndV, e_kV1, e_kV2, e_mOrV, e_kO1, e_kO2, e_mNotV, e_kN1, e_tOf, e_kQ1, e_tAndM, e_tOrM, e_kAn, e_kOr, e_tNotM, e_tYes, e_toB, e_looks0, e_looks1, e_lookv, e_looko, e_looks, e_Od, e_argv, e_argo, e_args, e_argsOf0, e_argsOf1, e_one, e_mCall, e_kF1, e_kF2, e_kF3, e_at0, e_at1, e_at2, e_at3, e_at4, e_at5, e_at6, e_at7, e_mIsi, e_mSl, e_kS1, e_kS2, e_kS3, e_oNone, e_oSome, e_sNext, e_sSeq, e_kSeq0, e_kSeq1, e_sIf, e_kIf, e_sRet, e_kRet, e_retv, e_reto, e_rets, e_sSet, e_kSt, e_wrO, e_wru, e_wrv, e_wrl, e_storv, e_dic0, e_dic1, e_lookd0, e_storo, e_stors, e_sFor, e_kFor, e_for0, e_for1, e_kBd, e_kGo0, e_kGo1, e_iSeq, e_iRng, e_gSet, e_mLc, e_kLc1, e_kLc2, e_wipe0, e_wipe1, e_frz0, e_frz1, e_frz, e_fnM, e_kFn0, e_kFn1, e_chain, e_put, e_own, bind_ite, wp_ite, bind_draw, bind_r, wp_ret, wp_draw, e_chk, bind_s, pools, O.toD, List.append_nil, List.nil_append, List.cons_append, List.length_cons, List.length_nil, List.replicate, List.getElem?_cons_zero, List.getElem?_cons_succ, List.set, slotsAll, slotsOf, List.flatMap_cons, List.flatMap_nil, Bool.false_eq_true, if_true, if_false, Bool.not_true, Bool.not_false, Nat.zero_add, Nat.le_refl, Nat.zero_le, isi_none, isi_bool, isi_int, isi_str, isi_list, isi_tuple, isi_dict, dIs, dIsNot, isNone, decide_eq_true_eq, Bool.not_eq_true, Nat.reduceLeDiff, Nat.reduceAdd, Nat.reduceSub, itemsOf, dNe_bool]
    | bool b => simp -implicitDefEqProofs only [m_law_same, e_mC, e_mVar, e_mBin, e_kB1, e_kB2, e_kB3, e_kB4, e_kP, e_mUn, e_kU1, e_kU2, e_mNil, e_mCons, e_kC1, e_kC2, e_mB, e_kA1, e_kA2, e_mTup, e_mLst, e_kT1, e_kL1, e_kJ, e_kJb, e_mIf, e_kI1, e_mAndV, e_kV1, e_kV2, e_mOrV, e_kO1, e_kO2, e_mNotV, e_kN1, e_tOf, e_kQ1, e_tAndM, e_tOrM, e_kAn, e_kOr, e_tNotM, e_tYes, e_toB, e_looks0, e_looks1, e_lookv, e_looko, e_looks, e_Od, e_argv, e_argo, e_args, e_argsOf0, e_argsOf1, e_one, e_mCall, e_kF1, e_kF2, e_kF3, e_at0, e_at1, e_at2, e_at3, e_at4, e_at5, e_at6, e_at7, e_mIsi, e_mSl, e_kS1, e_kS2, e_kS3, e_oNone, e_oSome, e_sNext, e_sSeq, e_kSeq0, e_kSeq1, e_sIf, e_kIf, e_sRet, e_kRet, e_retv, e_reto, e_rets, e_sSet, e_kSt, e_wrO, e_wru, e_wrv, e_wrl, e_storv, e_dic0, e_dic1, e_lookd0, e_storo, e_stors, e_sFor, e_kFor, e_for0, e_for1, e_kBd, e_kGo0, e_kGo1, e_iSeq, e_iRng, e_gSet, e_mLc, e_kLc1, e_kLc2, e_wipe0, e_wipe1, e_frz0, e_frz1, e_frz, e_fnM, e_kFn0, e_kFn1, e_chain, e_put, e_own, bind_ite, wp_ite, bind_draw, bind_r, wp_ret, wp_draw, e_chk, bind_s, pools, O.toD, List.append_nil, List.nil_append, List.cons_append, List.length_cons, List.length_nil, List.replicate, List.getElem?_cons_zero, List.getElem?_cons_succ, List.set, slotsAll, slotsOf, List.flatMap_cons, List.flatMap_nil, Bool.false_eq_true, if_true, if_false, Bool.not_true, Bool.not_false, Nat.zero_add, Nat.le_refl, Nat.zero_le, isi_none, isi_bool, isi_int, isi_str, isi_list, isi_tuple, isi_dict, dIs, dIsNot, isNone, decide_eq_true_eq, Bool.not_eq_true, Nat.reduceLeDiff, Nat.reduceAdd, Nat.reduceSub, itemsOf, dNe_bool, dEq_bool, decide_true]
    | int i => simp -implicitDefEqProofs only [m_law_same, e_mC, e_mVar, e_mBin, e_kB1, e_kB2, e_kB3, e_kB4, e_kP, e_mUn, e_kU1, e_kU2, e_mNil, e_mCons, e_kC1, e_kC2, e_mB, e_kA1, e_kA2, e_mTup, e_mLst, e_kT1, e_kL1, e_kJ, e_kJb, e_mIf, e_kI1, e_mAndV, e_kV1, e_kV2, e_mOrV, e_kO1, e_kO2, e_mNotV, e_kN1, e_tOf, e_kQ1, e_tAndM, e_tOrM, e_kAn, e_kOr, e_tNotM, e_tYes, e_toB, e_looks0, e_looks1, e_lookv, e_looko, e_looks, e_Od, e_argv, e_argo, e_args, e_argsOf0, e_argsOf1, e_one, e_mCall, e_kF1, e_kF2, e_kF3, e_at0, e_at1, e_at2, e_at3, e_at4, e_at5, e_at6, e_at7, e_mIsi, e_mSl, e_kS1, e_kS2, e_kS3, e_oNone, e_oSome, e_sNext, e_sSeq, e_kSeq0, e_kSeq1, e_sIf, e_kIf, e_sRet, e_kRet, e_retv, e_reto, e_rets, e_sSet, e_kSt, e_wrO, e_wru, e_wrv, e_wrl, e_storv, e_dic0, e_dic1, e_lookd0, e_storo, e_stors, e_sFor, e_kFor, e_for0, e_for1, e_kBd, e_kGo0, e_kGo1, e_iSeq, e_iRng, e_gSet, e_mLc, e_kLc1, e_kLc2, e_wipe0, e_wipe1, e_frz0, e_frz1, e_frz, e_fnM, e_kFn0, e_kFn1, e_chain, e_put, e_own, bind_ite, wp_ite, bind_draw, bind_r, wp_ret, wp_draw, e_chk, bind_s, pools, O.toD, List.append_nil, List.nil_append, List.cons_append, List.length_cons, List.length_nil, List.replicate, List.getElem?_cons_zero, List.getElem?_cons_succ, List.set, slotsAll, slotsOf, List.flatMap_cons, List.flatMap_nil, Bool.false_eq_true, if_true, if_false, Bool.not_true, Bool.not_false, Nat.zero_add, Nat.le_refl, Nat.zero_le, isi_none, isi_bool, isi_int, isi_str, isi_list, isi_tuple, isi_dict, dIs, dIsNot, isNone, decide_eq_true_eq, Bool.not_eq_true, Nat.reduceLeDiff, Nat.reduceAdd, Nat.reduceSub, itemsOf, dNe_bool, dEq_int, decide_true]
    | str z => simp -implicitDefEqProofs only [m_law_same, e_mC, e_mVar, e_mBin, e_kB1, e_kB2, e_kB3, e_kB4, e_kP, e_mUn, e_kU1, e_kU2, e_mNil, e_mCons, e_kC1, e_kC2, e_mB, e_kA1, e_kA2, e_mTup, e_mLst, e_kT1, e_kL1, e_kJ, e_kJb, e_mIf, e_kI1, e_mAndV, e_kV1, e_kV2, e_mOrV, e_kO1, e_kO2, e_mNotV, e_kN1, e_tOf, e_kQ1, e_tAndM, e_tOrM, e_kAn, e_kOr, e_tNotM, e_tYes, e_toB, e_looks0, e_looks1, e_lookv, e_looko, e_looks, e_Od, e_argv, e_argo, e_args, e_argsOf0, e_argsOf1, e_one, e_mCall, e_kF1, e_kF2, e_kF3, e_at0, e_at1, e_at2, e_at3, e_at4, e_at5, e_at6, e_at7, e_mIsi, e_mSl, e_kS1, e_kS2, e_kS3, e_oNone, e_oSome, e_sNext, e_sSeq, e_kSeq0, e_kSeq1, e_sIf, e_kIf, e_sRet, e_kRet, e_retv, e_reto, e_rets, e_sSet, e_kSt, e_wrO, e_wru, e_wrv, e_wrl, e_storv, e_dic0, e_dic1, e_lookd0, e_storo, e_stors, e_sFor, e_kFor, e_for0, e_for1, e_kBd, e_kGo0, e_kGo1, e_iSeq, e_iRng, e_gSet, e_mLc, e_kLc1, e_kLc2, e_wipe0, e_wipe1, e_frz0, e_frz1, e_frz, e_fnM, e_kFn0, e_kFn1, e_chain, e_put, e_own, bind_ite, wp_ite, bind_draw, bind_r, wp_ret, wp_draw, e_chk, bind_s, pools, O.toD, List.append_nil, List.nil_append, List.cons_append, List.length_cons, List.length_nil, List.replicate, List.getElem?_cons_zero, List.getElem?_cons_succ, List.set, slotsAll, slotsOf, List.flatMap_cons, List.flatMap_nil, Bool.false_eq_true, if_true, if_false, Bool.not_true, Bool.not_false, Nat.zero_add, Nat.le_refl, Nat.zero_le, isi_none, isi_bool, isi_int, isi_str, isi_list, isi_tuple, isi_dict, dIs, dIsNot, isNone, decide_eq_true_eq, Bool.not_eq_true, Nat.reduceLeDiff, Nat.reduceAdd, Nat.reduceSub, itemsOf, dNe_bool, dEq_str, decide_true]
    | dict kvs => exact q.nodict.elim
    | tuple xs =>
      obtain ⟨k, rfl, hx⟩ := q.tup_inv
      have hl := wtA_len xs
      have hwx : wt (.tuple xs) = wtA xs + 8 := by simp only [wt]
      rw [hwx] at hw
      have lc : mLcGo (gSet 2) (tNotM (tOf (mCall (m_law_same n) (mCons (mBin dIx (mVar 0) (mVar 2)) (mCons (mBin dIx (mVar 1) (mVar 2)) mNil))))) (mVar 2) [2] (rngD 0 xs.length) [.v (.tuple xs), .v (.tuple xs), .u] = .ret ([], []) := by
        refine lc_none _ fun d hd => ?_
        obtain ⟨i, hi, rfl⟩ := rng_mem hd
        have e := dIx_tup (List.getElem?_eq_getElem hi)
        have hm := List.getElem_mem hi
        have s := ih k xs[i] (hx _ hm) (by omega) (by have := wtA_mem hm; omega)
        refine ⟨[.v (.tuple xs), .v (.tuple xs), .v (.int i)], rfl, ?_, rfl⟩
        simp -implicitDefEqProofs only [e_mC, e_mVar, e_mBin, e_kB1, e_kB2, e_kB3, e_kB4, e_kP, e_mUn, e_kU1, e_kU2, e_mNil, e_mCons, e_kC1, e_kC2, e_mB, e_kA1, e_kA2, e_mTup, e_mLst, e_kT1, e_kL1, e_kJ, e_kJb, e_mIf, e_kI1, e_mAndV, e_kV1, e_kV2, e_mOrV, e_kO1, e_kO2, e_mNotV, e_kN1, e_tOf, e_kQ1, e_tAndM, e_tOrM, e_kAn, e_kOr, e_tNotM, e_tYes, e_toB, e_looks0, e_looks1, e_lookv, e_looko, e_looks, e_Od, e_argv, e_argo, e_args, e_argsOf0, e_argsOf1, e_one, e_mCall, e_kF1, e_kF2, e_kF3, e_at0, e_at1, e_at2, e_at3, e_at4, e_at5, e_at6, e_at7, e_mIsi, e_mSl, e_kS1, e_kS2, e_kS3, e_oNone, e_oSome, e_sNext, e_sSeq, e_kSeq0, e_kSeq1, e_sIf, e_kIf, e_sRet, e_kRet, e_retv, e_reto, e_rets, e_sSet, e_kSt, e_wrO, e_wru, e_wrv, e_wrl, e_storv, e_dic0, e_dic1, e_lookd0, e_storo, e_stors, e_sFor, e_kFor, e_for0, e_for1, e_kBd, e_kGo0, e_kGo1, e_iSeq, e_iRng, e_gSet, e_mLc, e_kLc1, e_kLc2, e_wipe0, e_wipe1, e_frz0, e_frz1, e_frz, e_fnM, e_kFn0, e_kFn1, e_chain, e_put, e_own, bind_ite, wp_ite, bind_draw, bind_r, wp_ret, wp_draw, e_chk, bind_s, pools, O.toD, List.append_nil, List.nil_append, List.cons_append, List.length_cons, List.length_nil, List.replicate, List.getElem?_cons_zero, List.getElem?_cons_succ, List.set, slotsAll, slotsOf, List.flatMap_cons, List.flatMap_nil, Bool.false_eq_true, if_true, if_false, Bool.not_true, Bool.not_false, Nat.zero_add, Nat.le_refl, Nat.zero_le, isi_none, isi_bool, isi_int, isi_str, isi_list, isi_tuple, isi_dict, dIs, dIsNot, isNone, decide_eq_true_eq, Bool.not_eq_true, Nat.reduceLeDiff, Nat.reduceAdd, Nat.reduceSub, itemsOf, e, s]
      have hr : rng1 [.int xs.length] = .ret (rngD 0 xs.length) := rng1_nat (by omega)
      have hrl : (rngD 0 xs.length).length ≤ 100000 := by unfold rngD; rw [List.length_map, List.length_range]; omega
      simp -implicitDefEqProofs only [m_law_same, e_mC, e_mVar, e_mBin, e_kB1, e_kB2, e_kB3, e_kB4, e_kP, e_mUn, e_kU1, e_kU2, e_mNil, e_mCons, e_kC1, e_kC2, e_mB, e_kA1, e_kA2, e_mTup, e_mLst, e_kT1, e_kL1, e_kJ, e_kJb, e_mIf, e_kI1, e_mAndV, e_kV1, e_kV2, e_mOrV, e_kO1, e_kO2, e_mNotV, e_kN1, e_tOf, e_kQ1, e_tAndM, e_tOrM, e_kAn, e_kOr, e_tNotM, e_tYes, e_toB, e_looks0, e_looks1, e_lookv, e_looko, e_looks, e_Od, e_argv, e_argo, e_args, e_argsOf0, e_argsOf1, e_one, e_mCall, e_kF1, e_kF2, e_kF3, e_at0, e_at1, e_at2, e_at3, e_at4, e_at5, e_at6, e_at7, e_mIsi, e_mSl, e_kS1, e_kS2, e_kS3, e_oNone, e_oSome, e_sNext, e_sSeq, e_kSeq0, e_kSeq1, e_sIf, e_kIf, e_sRet, e_kRet, e_retv, e_reto, e_rets, e_sSet, e_kSt, e_wrO, e_wru, e_wrv, e_wrl, e_storv, e_dic0, e_dic1, e_lookd0, e_storo, e_stors, e_sFor, e_kFor, e_for0, e_for1, e_kBd, e_kGo0, e_kGo1, e_iSeq, e_iRng, e_gSet, e_mLc, e_kLc1, e_kLc2, e_wipe0, e_wipe1, e_frz0, e_frz1, e_frz, e_fnM, e_kFn0, e_kFn1, e_chain, e_put, e_own, bind_ite, wp_ite, bind_draw, bind_r, wp_ret, wp_draw, e_chk, bind_s, pools, O.toD, List.append_nil, List.nil_append, List.cons_append, List.length_cons, List.length_nil, List.replicate, List.getElem?_cons_zero, List.getElem?_cons_succ, List.set, slotsAll, slotsOf, List.flatMap_cons, List.flatMap_nil, Bool.false_eq_true, if_true, if_false, Bool.not_true, Bool.not_false, Nat.zero_add, Nat.le_refl, Nat.zero_le, isi_none, isi_bool, isi_int, isi_str, isi_list, isi_tuple, isi_dict, dIs, dIsNot, isNone, decide_eq_true_eq, Bool.not_eq_true, Nat.reduceLeDiff, Nat.reduceAdd, Nat.reduceSub, itemsOf, dNe_bool, dNe_int, dEq_int, bLen_tup, bLen_list, hr, hrl, lc, out, List.filter_nil, decide_true]
      rfl
    | list xs =>
      obtain ⟨k, rfl, hx⟩ := q.list_inv
      have hl := wtA_len xs
      have hwx : wt (.list xs) = wtA xs + 8 := by simp only [wt]
      rw [hwx] at hw
      have lc : mLcGo (gSet 2) (tNotM (tOf (mCall (m_law_same n) (mCons (mBin dIx (mVar 0) (mVar 2)) (mCons (mBin dIx (mVar 1) (mVar 2)) mNil))))) (mVar 2) [2] (rngD 0 xs.length) [.v (.list xs), .v (.list xs), .u] = .ret ([], []) := by
        refine lc_none _ fun d hd => ?_
        obtain ⟨i, hi, rfl⟩ := rng_mem hd
        have e := dIx_listN (List.getElem?_eq_getElem hi)
        have hm := List.getElem_mem hi
        have s := ih k xs[i] (hx _ hm) (by omega) (by have := wtA_mem hm; omega)
        refine ⟨[.v (.list xs), .v (.list xs), .v (.int i)], rfl, ?_, rfl⟩
        simp -implicitDefEqProofs only [e_mC, e_mVar, e_mBin, e_kB1, e_kB2, e_kB3, e_kB4, e_kP, e_mUn, e_kU1, e_kU2, e_mNil, e_mCons, e_kC1, e_kC2, e_mB, e_kA1, e_kA2, e_mTup, e_mLst, e_kT1, e_kL1, e_kJ, e_kJb, e_mIf, e_kI1, e_mAndV, e_kV1, e_kV2, e_mOrV, e_kO1, e_kO2, e_mNotV, e_kN1, e_tOf, e_kQ1, e_tAndM, e_tOrM, e_kAn, e_kOr, e_tNotM, e_tYes, e_toB, e_looks0, e_looks1, e_lookv, e_looko, e_looks, e_Od, e_argv, e_argo, e_args, e_argsOf0, e_argsOf1, e_one, e_mCall, e_kF1, e_kF2, e_kF3, e_at0, e_at1, e_at2, e_at3, e_at4, e_at5, e_at6, e_at7, e_mIsi, e_mSl, e_kS1, e_kS2, e_kS3, e_oNone, e_oSome, e_sNext, e_sSeq, e_kSeq0, e_kSeq1, e_sIf, e_kIf, e_sRet, e_kRet, e_retv, e_reto, e_rets, e_sSet, e_kSt, e_wrO, e_wru, e_wrv, e_wrl, e_storv, e_dic0, e_dic1, e_lookd0, e_storo, e_stors, e_sFor, e_kFor, e_for0, e_for1, e_kBd, e_kGo0, e_kGo1, e_iSeq, e_iRng, e_gSet, e_mLc, e_kLc1, e_kLc2, e_wipe0, e_wipe1, e_frz0, e_frz1, e_frz, e_fnM, e_kFn0, e_kFn1, e_chain, e_put, e_own, bind_ite, wp_ite, bind_draw, bind_r, wp_ret, wp_draw, e_chk, bind_s, pools, O.toD, List.append_nil, List.nil_append, List.cons_append, List.length_cons, List.length_nil, List.replicate, List.getElem?_cons_zero, List.getElem?_cons_succ, List.set, slotsAll, slotsOf, List.flatMap_cons, List.flatMap_nil, Bool.false_eq_true, if_true, if_false, Bool.not_true, Bool.not_false, Nat.zero_add, Nat.le_refl, Nat.zero_le, isi_none, isi_bool, isi_int, isi_str, isi_list, isi_tuple, isi_dict, dIs, dIsNot, isNone, decide_eq_true_eq, Bool.not_eq_true, Nat.reduceLeDiff, Nat.reduceAdd, Nat.reduceSub, itemsOf, e, s]
      have hr : rng1 [.int xs.length] = .ret (rngD 0 xs.length) := rng1_nat (by omega)
      have hrl : (rngD 0 xs.length).length ≤ 100000 := by unfold rngD; rw [List.length_map, List.length_range]; omega
      simp -implicitDefEqProofs only [m_law_same, e_mC, e_mVar, e_mBin, e_kB1, e_kB2, e_kB3, e_kB4, e_kP, e_mUn, e_kU1, e_kU2, e_mNil, e_mCons, e_kC1, e_kC2, e_mB, e_kA1, e_kA2, e_mTup, e_mLst, e_kT1, e_kL1, e_kJ, e_kJb, e_mIf, e_kI1, e_mAndV, e_kV1, e_kV2, e_mOrV, e_kO1, e_kO2, e_mNotV, e_kN1, e_tOf, e_kQ1, e_tAndM, e_tOrM, e_kAn, e_kOr, e_tNotM, e_tYes, e_toB, e_looks0, e_looks1, e_lookv, e_looko, e_looks, e_Od, e_argv, e_argo, e_args, e_argsOf0, e_argsOf1, e_one, e_mCall, e_kF1, e_kF2, e_kF3, e_at0, e_at1, e_at2, e_at3, e_at4, e_at5, e_at6, e_at7, e_mIsi, e_mSl, e_kS1, e_kS2, e_kS3, e_oNone, e_oSome, e_sNext, e_sSeq, e_kSeq0, e_kSeq1, e_sIf, e_kIf, e_sRet, e_kRet, e_retv, e_reto, e_rets, e_sSet, e_kSt, e_wrO, e_wru, e_wrv, e_wrl, e_storv, e_dic0, e_dic1, e_lookd0, e_storo, e_stors, e_sFor, e_kFor, e_for0, e_for1, e_kBd, e_kGo0, e_kGo1, e_iSeq, e_iRng, e_gSet, e_mLc, e_kLc1, e_kLc2, e_wipe0, e_wipe1, e_frz0, e_frz1, e_frz, e_fnM, e_kFn0, e_kFn1, e_chain, e_put, e_own, bind_ite, wp_ite, bind_draw, bind_r, wp_ret, wp_draw, e_chk, bind_s, pools, O.toD, List.append_nil, List.nil_append, List.cons_append, List.length_cons, List.length_nil, List.replicate, List.getElem?_cons_zero, List.getElem?_cons_succ, List.set, slotsAll, slotsOf, List.flatMap_cons, List.flatMap_nil, Bool.false_eq_true, if_true, if_false, Bool.not_true, Bool.not_false, Nat.zero_add, Nat.le_refl, Nat.zero_le, isi_none, isi_bool, isi_int, isi_str, isi_list, isi_tuple, isi_dict, dIs, dIsNot, isNone, decide_eq_true_eq, Bool.not_eq_true, Nat.reduceLeDiff, Nat.reduceAdd, Nat.reduceSub, itemsOf, dNe_bool, dNe_int, dEq_int, bLen_tup, bLen_list, hr, hrl, lc, out, List.filter_nil, decide_true]
      rfl
end DL

namespace DL
open PySem PySem.Spec PyProof.Rows L2
open Sc
theorem inD_tup (d : DL.D) (xs : List DL.D) : inD d (.tuple xs) = if (PyData.canLayAll0 xs && d.canLay0 && decide (min (PyData.depthAll xs) d.depth ≤ 100)) = true then some (xs.any fun y => PyData.eqv y d) else none := rfl
theorem in01 (i : Int) : ∃ b, dIn (.int i) (.tuple [.int 0, .int 1]) = .ret (.v (.bool b)) := by
  have h : (PyData.canLayAll0 [.int 0, .int 1] && (PyData.int i).canLay0 && decide (min (PyData.depthAll [.int 0, .int 1]) (PyData.int i).depth ≤ 100)) = true := by
    simp [PyData.canLayAll0, PyData.canLay0, PyData.depthAll, PyData.depth]
  unfold dIn
  rw [inD_tup, if_pos h]
  exact ⟨_, rfl⟩
theorem booled_wp {B : Nat} : ∀ (n h : Nat) (d : DL.D), Bd B h d → h < n → wt d ≤ 100000 → (m_law_booled n [.v d]).wp fun r => ∃ y, r = .v y ∧ Bd B h y ∧ wt y ≤ wt d := by
  intro n
  induction n with
  | zero => intro h d _ hh; omega
  | succ n ih =>
    intro h d q hh hw
    cases d with
    | none => simp -implicitDefEqProofs only [m_law_booled, e_mC, e_mVar, e_mBin, e_kB1, e_kB2, e_kB3, e_kB4, e_kP, e_mUn, e_kU1, e_kU2, e_mNil, e_mCons, e_kC1, e_kC2, e_mB, e_kA1, e_kA2, e_mTup, e_mLst, e_kT1, e_kL1, e_kJ, e_kJb, e_mIf, e_kI1, e_mAndV, e_kV1, e_kV2, e_mOrV, e_kO1, e_kO2, e_mNotV, e_kN1, e_tOf, e_kQ1, e_tAndM, e_tOrM, e_kAn, e_kOr, e_tNotM, e_tYes, e_toB, e_looks0, e_looks1, e_lookv, e_looko, e_looks, e_Od, e_argv, e_argo, e_args, e_argsOf0, e_argsOf1, e_one, e_mCall, e_kF1, e_kF2, e_kF3, e_at0, e_at1, e_at2, e_at3, e_at4, e_at5, e_at6, e_at7, e_mIsi, e_mSl, e_kS1, e_kS2, e_kS3, e_oNone, e_oSome, e_sNext, e_sSeq, e_kSeq0, e_kSeq1, e_sIf, e_kIf, e_sRet, e_kRet, e_retv, e_reto, e_rets, e_sSet, e_kSt, e_wrO, e_wru, e_wrv, e_wrl, e_storv, e_dic0, e_dic1, e_lookd0, e_storo, e_stors, e_sFor, e_kFor, e_for0, e_for1, e_kBd, e_kGo0, e_kGo1, e_iSeq, e_iRng, e_gSet, e_mLc, e_kLc1, e_kLc2, e_wipe0, e_wipe1, e_frz0, e_frz1, e_frz, e_fnM, e_kFn0, e_kFn1, e_chain, e_put, e_own, bind_ite, wp_ite, bind_draw, bind_r, wp_ret, wp_draw, e_chk, bind_s, pools, O.toD, List.append_nil, List.nil_append, List.cons_append, List.length_cons, List.length_nil, List.replicate, List.getElem?_cons_zero, List.getElem?_cons_succ, List.set, slotsAll, slotsOf, List.flatMap_cons, List.flatMap_nil, Bool.false_eq_true, if_true, if_false, Bool.not_true, Bool.not_false, Nat.zero_add, Nat.le_refl, Nat.zero_le, isi_none, isi_bool, isi_int, isi_str, isi_list, isi_tuple, isi_dict, dIs, dIsNot, isNone, decide_eq_true_eq, Bool.not_eq_true, Nat.reduceLeDiff, Nat.reduceAdd, Nat.reduceSub, itemsOf, whole_is, isW]; exact ⟨_, rfl, q, Nat.le_refl _⟩
    | bool b => simp -implicitDefEqProofs only [m_law_booled, e_mC, e_mVar, e_mBin, e_kB1, e_kB2, e_kB3, e_kB4, e_kP, e_mUn, e_kU1, e_kU2, e_mNil, e_mCons, e_kC1, e_kC2, e_mB, e_kA1, e_kA2, e_mTup, e_mLst, e_kT1, e_kL1, e_kJ, e_kJb, e_mIf, e_kI1, e_mAndV, e_kV1, e_kV2, e_mOrV, e_kO1, e_kO2, e_mNotV, e_kN1, e_tOf, e_kQ1, e_tAndM, e_tOrM, e_kAn, e_kOr, e_tNotM, e_tYes, e_toB, e_looks0, e_looks1, e_lookv, e_looko, e_looks, e_Od, e_argv, e_argo, e_args, e_argsOf0, e_argsOf1, e_one, e_mCall, e_kF1, e_kF2, e_kF3, e_at0, e_at1, e_at2, e_at3, e_at4, e_at5, e_at6, e_at7, e_mIsi, e_mSl, e_kS1, e_kS2, e_kS3, e_oNone, e_oSome, e_sNext, e_sSeq, e_kSeq0, e_kSeq1, e_sIf, e_kIf, e_sRet, e_kRet, e_retv, e_reto, e_rets, e_sSet, e_kSt, e_wrO, e_wru, e_wrv, e_wrl, e_storv, e_dic0, e_dic1, e_lookd0, e_storo, e_stors, e_sFor, e_kFor, e_for0, e_for1, e_kBd, e_kGo0, e_kGo1, e_iSeq, e_iRng, e_gSet, e_mLc, e_kLc1, e_kLc2, e_wipe0, e_wipe1, e_frz0, e_frz1, e_frz, e_fnM, e_kFn0, e_kFn1, e_chain, e_put, e_own, bind_ite, wp_ite, bind_draw, bind_r, wp_ret, wp_draw, e_chk, bind_s, pools, O.toD, List.append_nil, List.nil_append, List.cons_append, List.length_cons, List.length_nil, List.replicate, List.getElem?_cons_zero, List.getElem?_cons_succ, List.set, slotsAll, slotsOf, List.flatMap_cons, List.flatMap_nil, Bool.false_eq_true, if_true, if_false, Bool.not_true, Bool.not_false, Nat.zero_add, Nat.le_refl, Nat.zero_le, isi_none, isi_bool, isi_int, isi_str, isi_list, isi_tuple, isi_dict, dIs, dIsNot, isNone, decide_eq_true_eq, Bool.not_eq_true, Nat.reduceLeDiff, Nat.reduceAdd, Nat.reduceSub, itemsOf, whole_is, isW]; exact ⟨_, rfl, q, Nat.le_refl _⟩
    | str z => simp -implicitDefEqProofs only [m_law_booled, e_mC, e_mVar, e_mBin, e_kB1, e_kB2, e_kB3, e_kB4, e_kP, e_mUn, e_kU1, e_kU2, e_mNil, e_mCons, e_kC1, e_kC2, e_mB, e_kA1, e_kA2, e_mTup, e_mLst, e_kT1, e_kL1, e_kJ, e_kJb, e_mIf, e_kI1, e_mAndV, e_kV1, e_kV2, e_mOrV, e_kO1, e_kO2, e_mNotV, e_kN1, e_tOf, e_kQ1, e_tAndM, e_tOrM, e_kAn, e_kOr, e_tNotM, e_tYes, e_toB, e_looks0, e_looks1, e_lookv, e_looko, e_looks, e_Od, e_argv, e_argo, e_args, e_argsOf0, e_argsOf1, e_one, e_mCall, e_kF1, e_kF2, e_kF3, e_at0, e_at1, e_at2, e_at3, e_at4, e_at5, e_at6, e_at7, e_mIsi, e_mSl, e_kS1, e_kS2, e_kS3, e_oNone, e_oSome, e_sNext, e_sSeq, e_kSeq0, e_kSeq1, e_sIf, e_kIf, e_sRet, e_kRet, e_retv, e_reto, e_rets, e_sSet, e_kSt, e_wrO, e_wru, e_wrv, e_wrl, e_storv, e_dic0, e_dic1, e_lookd0, e_storo, e_stors, e_sFor, e_kFor, e_for0, e_for1, e_kBd, e_kGo0, e_kGo1, e_iSeq, e_iRng, e_gSet, e_mLc, e_kLc1, e_kLc2, e_wipe0, e_wipe1, e_frz0, e_frz1, e_frz, e_fnM, e_kFn0, e_kFn1, e_chain, e_put, e_own, bind_ite, wp_ite, bind_draw, bind_r, wp_ret, wp_draw, e_chk, bind_s, pools, O.toD, List.append_nil, List.nil_append, List.cons_append, List.length_cons, List.length_nil, List.replicate, List.getElem?_cons_zero, List.getElem?_cons_succ, List.set, slotsAll, slotsOf, List.flatMap_cons, List.flatMap_nil, Bool.false_eq_true, if_true, if_false, Bool.not_true, Bool.not_false, Nat.zero_add, Nat.le_refl, Nat.zero_le, isi_none, isi_bool, isi_int, isi_str, isi_list, isi_tuple, isi_dict, dIs, dIsNot, isNone, decide_eq_true_eq, Bool.not_eq_true, Nat.reduceLeDiff, Nat.reduceAdd, Nat.reduceSub, itemsOf, whole_is, isW]; exact ⟨_, rfl, q, Nat.le_refl _⟩
    | list z => simp -implicitDefEqProofs only [m_law_booled, e_mC, e_mVar, e_mBin, e_kB1, e_kB2, e_kB3, e_kB4, e_kP, e_mUn, e_kU1, e_kU2, e_mNil, e_mCons, e_kC1, e_kC2, e_mB, e_kA1, e_kA2, e_mTup, e_mLst, e_kT1, e_kL1, e_kJ, e_kJb, e_mIf, e_kI1, e_mAndV, e_kV1, e_kV2, e_mOrV, e_kO1, e_kO2, e_mNotV, e_kN1, e_tOf, e_kQ1, e_tAndM, e_tOrM, e_kAn, e_kOr, e_tNotM, e_tYes, e_toB, e_looks0, e_looks1, e_lookv, e_looko, e_looks, e_Od, e_argv, e_argo, e_args, e_argsOf0, e_argsOf1, e_one, e_mCall, e_kF1, e_kF2, e_kF3, e_at0, e_at1, e_at2, e_at3, e_at4, e_at5, e_at6, e_at7, e_mIsi, e_mSl, e_kS1, e_kS2, e_kS3, e_oNone, e_oSome, e_sNext, e_sSeq, e_kSeq0, e_kSeq1, e_sIf, e_kIf, e_sRet, e_kRet, e_retv, e_reto, e_rets, e_sSet, e_kSt, e_wrO, e_wru, e_wrv, e_wrl, e_storv, e_dic0, e_dic1, e_lookd0, e_storo, e_stors, e_sFor, e_kFor, e_for0, e_for1, e_kBd, e_kGo0, e_kGo1, e_iSeq, e_iRng, e_gSet, e_mLc, e_kLc1, e_kLc2, e_wipe0, e_wipe1, e_frz0, e_frz1, e_frz, e_fnM, e_kFn0, e_kFn1, e_chain, e_put, e_own, bind_ite, wp_ite, bind_draw, bind_r, wp_ret, wp_draw, e_chk, bind_s, pools, O.toD, List.append_nil, List.nil_append, List.cons_append, List.length_cons, List.length_nil, List.replicate, List.getElem?_cons_zero, List.getElem?_cons_succ, List.set, slotsAll, slotsOf, List.flatMap_cons, List.flatMap_nil, Bool.false_eq_true, if_true, if_false, Bool.not_true, Bool.not_false, Nat.zero_add, Nat.le_refl, Nat.zero_le, isi_none, isi_bool, isi_int, isi_str, isi_list, isi_tuple, isi_dict, dIs, dIsNot, isNone, decide_eq_true_eq, Bool.not_eq_true, Nat.reduceLeDiff, Nat.reduceAdd, Nat.reduceSub, itemsOf, whole_is, isW]; exact ⟨_, rfl, q, Nat.le_refl _⟩
    | dict kvs => exact q.nodict.elim
    | int i =>
      obtain ⟨b, hb⟩ := in01 i
      simp -implicitDefEqProofs only [m_law_booled, e_mC, e_mVar, e_mBin, e_kB1, e_kB2, e_kB3, e_kB4, e_kP, e_mUn, e_kU1, e_kU2, e_mNil, e_mCons, e_kC1, e_kC2, e_mB, e_kA1, e_kA2, e_mTup, e_mLst, e_kT1, e_kL1, e_kJ, e_kJb, e_mIf, e_kI1, e_mAndV, e_kV1, e_kV2, e_mOrV, e_kO1, e_kO2, e_mNotV, e_kN1, e_tOf, e_kQ1, e_tAndM, e_tOrM, e_kAn, e_kOr, e_tNotM, e_tYes, e_toB, e_looks0, e_looks1, e_lookv, e_looko, e_looks, e_Od, e_argv, e_argo, e_args, e_argsOf0, e_argsOf1, e_one, e_mCall, e_kF1, e_kF2, e_kF3, e_at0, e_at1, e_at2, e_at3, e_at4, e_at5, e_at6, e_at7, e_mIsi, e_mSl, e_kS1, e_kS2, e_kS3, e_oNone, e_oSome, e_sNext, e_sSeq, e_kSeq0, e_kSeq1, e_sIf, e_kIf, e_sRet, e_kRet, e_retv, e_reto, e_rets, e_sSet, e_kSt, e_wrO, e_wru, e_wrv, e_wrl, e_storv, e_dic0, e_dic1, e_lookd0, e_storo, e_stors, e_sFor, e_kFor, e_for0, e_for1, e_kBd, e_kGo0, e_kGo1, e_iSeq, e_iRng, e_gSet, e_mLc, e_kLc1, e_kLc2, e_wipe0, e_wipe1, e_frz0, e_frz1, e_frz, e_fnM, e_kFn0, e_kFn1, e_chain, e_put, e_own, bind_ite, wp_ite, bind_draw, bind_r, wp_ret, wp_draw, e_chk, bind_s, pools, O.toD, List.append_nil, List.nil_append, List.cons_append, List.length_cons, List.length_nil, List.replicate, List.getElem?_cons_zero, List.getElem?_cons_succ, List.set, slotsAll, slotsOf, List.flatMap_cons, List.flatMap_nil, Bool.false_eq_true, if_true, if_false, Bool.not_true, Bool.not_false, Nat.zero_add, Nat.le_refl, Nat.zero_le, isi_none, isi_bool, isi_int, isi_str, isi_list, isi_tuple, isi_dict, dIs, dIsNot, isNone, decide_eq_true_eq, Bool.not_eq_true, Nat.reduceLeDiff, Nat.reduceAdd, Nat.reduceSub, itemsOf, whole_is, isW, hb, dEq_int]
      split
      · exact ⟨_, rfl, .bool, by simp only [wt]; omega⟩
      · exact ⟨_, rfl, q, Nat.le_refl _⟩
    | tuple xs =>
      obtain ⟨k, rfl, hx⟩ := q.tup_inv
      have hl := wtA_len xs
      have hwx : wt (.tuple xs) = wtA xs + 8 := by simp only [wt]
      rw [hwx] at hw
      have lc := lc_wp (g := gSet 1) (mt := tYesM) (m := mCall (m_law_booled n) (mCons (mVar 1) mNil)) (vs := [1]) (σ := [.v (.tuple xs), .u]) (P := fun x y => Bd B k y ∧ wt y ≤ wt x) xs (fun x hm => ⟨[.v (.tuple xs), .v x], rfl, rfl, by
        simp -implicitDefEqProofs only [e_mC, e_mVar, e_mBin, e_kB1, e_kB2, e_kB3, e_kB4, e_kP, e_mUn, e_kU1, e_kU2, e_mNil, e_mCons, e_kC1, e_kC2, e_mB, e_kA1, e_kA2, e_mTup, e_mLst, e_kT1, e_kL1, e_kJ, e_kJb, e_mIf, e_kI1, e_mAndV, e_kV1, e_kV2, e_mOrV, e_kO1, e_kO2, e_mNotV, e_kN1, e_tOf, e_kQ1, e_tAndM, e_tOrM, e_kAn, e_kOr, e_tNotM, e_tYes, e_toB, e_looks0, e_looks1, e_lookv, e_looko, e_looks, e_Od, e_argv, e_argo, e_args, e_argsOf0, e_argsOf1, e_one, e_mCall, e_kF1, e_kF2, e_kF3, e_at0, e_at1, e_at2, e_at3, e_at4, e_at5, e_at6, e_at7, e_mIsi, e_mSl, e_kS1, e_kS2, e_kS3, e_oNone, e_oSome, e_sNext, e_sSeq, e_kSeq0, e_kSeq1, e_sIf, e_kIf, e_sRet, e_kRet, e_retv, e_reto, e_rets, e_sSet, e_kSt, e_wrO, e_wru, e_wrv, e_wrl, e_storv, e_dic0, e_dic1, e_lookd0, e_storo, e_stors, e_sFor, e_kFor, e_for0, e_for1, e_kBd, e_kGo0, e_kGo1, e_iSeq, e_iRng, e_gSet, e_mLc, e_kLc1, e_kLc2, e_wipe0, e_wipe1, e_frz0, e_frz1, e_frz, e_fnM, e_kFn0, e_kFn1, e_chain, e_put, e_own, bind_ite, wp_ite, bind_draw, bind_r, wp_ret, wp_draw, e_chk, bind_s, pools, O.toD, List.append_nil, List.nil_append, List.cons_append, List.length_cons, List.length_nil, List.replicate, List.getElem?_cons_zero, List.getElem?_cons_succ, List.set, slotsAll, slotsOf, List.flatMap_cons, List.flatMap_nil, Bool.false_eq_true, if_true, if_false, Bool.not_true, Bool.not_false, Nat.zero_add, Nat.le_refl, Nat.zero_le, isi_none, isi_bool, isi_int, isi_str, isi_list, isi_tuple, isi_dict, dIs, dIsNot, isNone, decide_eq_true_eq, Bool.not_eq_true, Nat.reduceLeDiff, Nat.reduceAdd, Nat.reduceSub, itemsOf, T.wp_bind]
        refine T.wp_mono (ih k x (hx x hm) (by omega) (by have := wtA_mem hm; omega)) fun r ⟨y, e, p⟩ => ?_
        subst e
        simp -implicitDefEqProofs only [e_mC, e_mVar, e_mBin, e_kB1, e_kB2, e_kB3, e_kB4, e_kP, e_mUn, e_kU1, e_kU2, e_mNil, e_mCons, e_kC1, e_kC2, e_mB, e_kA1, e_kA2, e_mTup, e_mLst, e_kT1, e_kL1, e_kJ, e_kJb, e_mIf, e_kI1, e_mAndV, e_kV1, e_kV2, e_mOrV, e_kO1, e_kO2, e_mNotV, e_kN1, e_tOf, e_kQ1, e_tAndM, e_tOrM, e_kAn, e_kOr, e_tNotM, e_tYes, e_toB, e_looks0, e_looks1, e_lookv, e_looko, e_looks, e_Od, e_argv, e_argo, e_args, e_argsOf0, e_argsOf1, e_one, e_mCall, e_kF1, e_kF2, e_kF3, e_at0, e_at1, e_at2, e_at3, e_at4, e_at5, e_at6, e_at7, e_mIsi, e_mSl, e_kS1, e_kS2, e_kS3, e_oNone, e_oSome, e_sNext, e_sSeq, e_kSeq0, e_kSeq1, e_sIf, e_kIf, e_sRet, e_kRet, e_retv, e_reto, e_rets, e_sSet, e_kSt, e_wrO, e_wru, e_wrv, e_wrl, e_storv, e_dic0, e_dic1, e_lookd0, e_storo, e_stors, e_sFor, e_kFor, e_for0, e_for1, e_kBd, e_kGo0, e_kGo1, e_iSeq, e_iRng, e_gSet, e_mLc, e_kLc1, e_kLc2, e_wipe0, e_wipe1, e_frz0, e_frz1, e_frz, e_fnM, e_kFn0, e_kFn1, e_chain, e_put, e_own, bind_ite, wp_ite, bind_draw, bind_r, wp_ret, wp_draw, e_chk, bind_s, pools, O.toD, List.append_nil, List.nil_append, List.cons_append, List.length_cons, List.length_nil, List.replicate, List.getElem?_cons_zero, List.getElem?_cons_succ, List.set, slotsAll, slotsOf, List.flatMap_cons, List.flatMap_nil, Bool.false_eq_true, if_true, if_false, Bool.not_true, Bool.not_false, Nat.zero_add, Nat.le_refl, Nat.zero_le, isi_none, isi_bool, isi_int, isi_str, isi_list, isi_tuple, isi_dict, dIs, dIsNot, isNone, decide_eq_true_eq, Bool.not_eq_true, Nat.reduceLeDiff, Nat.reduceAdd, Nat.reduceSub, itemsOf, ite_self]
        exact ⟨y, rfl, p, trivial⟩⟩)
      have hl2 : xs.length ≤ 100000 := by omega
      simp -implicitDefEqProofs only [m_law_booled, e_mC, e_mVar, e_mBin, e_kB1, e_kB2, e_kB3, e_kB4, e_kP, e_mUn, e_kU1, e_kU2, e_mNil, e_mCons, e_kC1, e_kC2, e_mB, e_kA1, e_kA2, e_mTup, e_mLst, e_kT1, e_kL1, e_kJ, e_kJb, e_mIf, e_kI1, e_mAndV, e_kV1, e_kV2, e_mOrV, e_kO1, e_kO2, e_mNotV, e_kN1, e_tOf, e_kQ1, e_tAndM, e_tOrM, e_kAn, e_kOr, e_tNotM, e_tYes, e_toB, e_looks0, e_looks1, e_lookv, e_looko, e_looks, e_Od, e_argv, e_argo, e_args, e_argsOf0, e_argsOf1, e_one, e_mCall, e_kF1, e_kF2, e_kF3, e_at0, e_at1, e_at2, e_at3, e_at4, e_at5, e_at6, e_at7, e_mIsi, e_mSl, e_kS1, e_kS2, e_kS3, e_oNone, e_oSome, e_sNext, e_sSeq, e_kSeq0, e_kSeq1, e_sIf, e_kIf, e_sRet, e_kRet, e_retv, e_reto, e_rets, e_sSet, e_kSt, e_wrO, e_wru, e_wrv, e_wrl, e_storv, e_dic0, e_dic1, e_lookd0, e_storo, e_stors, e_sFor, e_kFor, e_for0, e_for1, e_kBd, e_kGo0, e_kGo1, e_iSeq, e_iRng, e_gSet, e_mLc, e_kLc1, e_kLc2, e_wipe0, e_wipe1, e_frz0, e_frz1, e_frz, e_fnM, e_kFn0, e_kFn1, e_chain, e_put, e_own, bind_ite, wp_ite, bind_draw, bind_r, wp_ret, wp_draw, e_chk, bind_s, pools, O.toD, List.append_nil, List.nil_append, List.cons_append, List.length_cons, List.length_nil, List.replicate, List.getElem?_cons_zero, List.getElem?_cons_succ, List.set, slotsAll, slotsOf, List.flatMap_cons, List.flatMap_nil, Bool.false_eq_true, if_true, if_false, Bool.not_true, Bool.not_false, Nat.zero_add, Nat.le_refl, Nat.zero_le, isi_none, isi_bool, isi_int, isi_str, isi_list, isi_tuple, isi_dict, dIs, dIsNot, isNone, decide_eq_true_eq, Bool.not_eq_true, Nat.reduceLeDiff, Nat.reduceAdd, Nat.reduceSub, itemsOf, hl2, T.wp_bind]
      refine T.wp_mono lc fun z hz => ?_
      have pl : ∀ k, frz [Sl.v (.tuple xs), .u] k = [.v (.tuple xs), .u] := frz_plain fun i x hi => by
        match i, hi with
        | i + 2, hi => simp at hi
      obtain ⟨z1, z2⟩ := z
      simp -implicitDefEqProofs only [e_mC, e_mVar, e_mBin, e_kB1, e_kB2, e_kB3, e_kB4, e_kP, e_mUn, e_kU1, e_kU2, e_mNil, e_mCons, e_kC1, e_kC2, e_mB, e_kA1, e_kA2, e_mTup, e_mLst, e_kT1, e_kL1, e_kJ, e_kJb, e_mIf, e_kI1, e_mAndV, e_kV1, e_kV2, e_mOrV, e_kO1, e_kO2, e_mNotV, e_kN1, e_tOf, e_kQ1, e_tAndM, e_tOrM, e_kAn, e_kOr, e_tNotM, e_tYes, e_toB, e_looks0, e_looks1, e_lookv, e_looko, e_looks, e_Od, e_argv, e_argo, e_args, e_argsOf0, e_argsOf1, e_one, e_mCall, e_kF1, e_kF2, e_kF3, e_at0, e_at1, e_at2, e_at3, e_at4, e_at5, e_at6, e_at7, e_mIsi, e_mSl, e_kS1, e_kS2, e_kS3, e_oNone, e_oSome, e_sNext, e_sSeq, e_kSeq0, e_kSeq1, e_sIf, e_kIf, e_sRet, e_kRet, e_retv, e_reto, e_rets, e_sSet, e_kSt, e_wrO, e_wru, e_wrv, e_wrl, e_storv, e_dic0, e_dic1, e_lookd0, e_storo, e_stors, e_sFor, e_kFor, e_for0, e_for1, e_kBd, e_kGo0, e_kGo1, e_iSeq, e_iRng, e_gSet, e_mLc, e_kLc1, e_kLc2, e_wipe0, e_wipe1, e_frz0, e_frz1, e_frz, e_fnM, e_kFn0, e_kFn1, e_chain, e_put, e_own, bind_ite, wp_ite, bind_draw, bind_r, wp_ret, wp_draw, e_chk, bind_s, pools, O.toD, List.append_nil, List.nil_append, List.cons_append, List.length_cons, List.length_nil, List.replicate, List.getElem?_cons_zero, List.getElem?_cons_succ, List.set, slotsAll, slotsOf, List.flatMap_cons, List.flatMap_nil, Bool.false_eq_true, if_true, if_false, Bool.not_true, Bool.not_false, Nat.zero_add, Nat.le_refl, Nat.zero_le, isi_none, isi_bool, isi_int, isi_str, isi_list, isi_tuple, isi_dict, dIs, dIsNot, isNone, decide_eq_true_eq, Bool.not_eq_true, Nat.reduceLeDiff, Nat.reduceAdd, Nat.reduceSub, itemsOf, pl, bTuple_list]
      refine ⟨_, rfl, fun y hy => ?_, ?_⟩
      · obtain ⟨x, _, p⟩ := hz.mem y hy
        exact p.1
      · have := hz.wt fun x y p => p.2
        simp only [wt] at this ⊢; omega
theorem listed_wp {B : Nat} : ∀ (n h : Nat) (d : DL.D) (j : Int), Bd B h d → h < n → wt d ≤ 100000 → (m_law_listed n [.v d, .v (.int j)]).wp (RP fun y => Bd B h y ∧ wt y ≤ wt d) := by
  intro n
  induction n with
  | zero => intro h d _ _ hh; omega
  | succ n ih =>
    intro h d j q hh hw
    cases d with
    | none => simp -implicitDefEqProofs only [m_law_listed, e_mC, e_mVar, e_mBin, e_kB1, e_kB2, e_kB3, e_kB4, e_kP, e_mUn, e_kU1, e_kU2, e_mNil, e_mCons, e_kC1, e_kC2, e_mB, e_kA1, e_kA2, e_mTup, e_mLst, e_kT1, e_kL1, e_kJ, e_kJb, e_mIf, e_kI1, e_mAndV, e_kV1, e_kV2, e_mOrV, e_kO1, e_kO2, e_mNotV, e_kN1, e_tOf, e_kQ1, e_tAndM, e_tOrM, e_kAn, e_kOr, e_tNotM, e_tYes, e_toB, e_looks0, e_looks1, e_lookv, e_looko, e_looks, e_Od, e_argv, e_argo, e_args, e_argsOf0, e_argsOf1, e_one, e_mCall, e_kF1, e_kF2, e_kF3, e_at0, e_at1, e_at2, e_at3, e_at4, e_at5, e_at6, e_at7, e_mIsi, e_mSl, e_kS1, e_kS2, e_kS3, e_oNone, e_oSome, e_sNext, e_sSeq, e_kSeq0, e_kSeq1, e_sIf, e_kIf, e_sRet, e_kRet, e_retv, e_reto, e_rets, e_sSet, e_kSt, e_wrO, e_wru, e_wrv, e_wrl, e_storv, e_dic0, e_dic1, e_lookd0, e_storo, e_stors, e_sFor, e_kFor, e_for0, e_for1, e_kBd, e_kGo0, e_kGo1, e_iSeq, e_iRng, e_gSet, e_mLc, e_kLc1, e_kLc2, e_wipe0, e_wipe1, e_frz0, e_frz1, e_frz, e_fnM, e_kFn0, e_kFn1, e_chain, e_put, e_own, bind_ite, wp_ite, bind_draw, bind_r, wp_ret, wp_draw, e_chk, bind_s, pools, O.toD, List.append_nil, List.nil_append, List.cons_append, List.length_cons, List.length_nil, List.replicate, List.getElem?_cons_zero, List.getElem?_cons_succ, List.set, slotsAll, slotsOf, List.flatMap_cons, List.flatMap_nil, Bool.false_eq_true, if_true, if_false, Bool.not_true, Bool.not_false, Nat.zero_add, Nat.le_refl, Nat.zero_le, isi_none, isi_bool, isi_int, isi_str, isi_list, isi_tuple, isi_dict, dIs, dIsNot, isNone, decide_eq_true_eq, Bool.not_eq_true, Nat.reduceLeDiff, Nat.reduceAdd, Nat.reduceSub, itemsOf]; exact ⟨q, Nat.le_refl _⟩
    | bool b => simp -implicitDefEqProofs only [m_law_listed, e_mC, e_mVar, e_mBin, e_kB1, e_kB2, e_kB3, e_kB4, e_kP, e_mUn, e_kU1, e_kU2, e_mNil, e_mCons, e_kC1, e_kC2, e_mB, e_kA1, e_kA2, e_mTup, e_mLst, e_kT1, e_kL1, e_kJ, e_kJb, e_mIf, e_kI1, e_mAndV, e_kV1, e_kV2, e_mOrV, e_kO1, e_kO2, e_mNotV, e_kN1, e_tOf, e_kQ1, e_tAndM, e_tOrM, e_kAn, e_kOr, e_tNotM, e_tYes, e_toB, e_looks0, e_looks1, e_lookv, e_looko, e_looks, e_Od, e_argv, e_argo, e_args, e_argsOf0, e_argsOf1, e_one, e_mCall, e_kF1, e_kF2, e_kF3, e_at0, e_at1, e_at2, e_at3, e_at4, e_at5, e_at6, e_at7, e_mIsi, e_mSl, e_kS1, e_kS2, e_kS3, e_oNone, e_oSome, e_sNext, e_sSeq, e_kSeq0, e_kSeq1, e_sIf, e_kIf, e_sRet, e_kRet, e_retv, e_reto, e_rets, e_sSet, e_kSt, e_wrO, e_wru, e_wrv, e_wrl, e_storv, e_dic0, e_dic1, e_lookd0, e_storo, e_stors, e_sFor, e_kFor, e_for0, e_for1, e_kBd, e_kGo0, e_kGo1, e_iSeq, e_iRng, e_gSet, e_mLc, e_kLc1, e_kLc2, e_wipe0, e_wipe1, e_frz0, e_frz1, e_frz, e_fnM, e_kFn0, e_kFn1, e_chain, e_put, e_own, bind_ite, wp_ite, bind_draw, bind_r, wp_ret, wp_draw, e_chk, bind_s, pools, O.toD, List.append_nil, List.nil_append, List.cons_append, List.length_cons, List.length_nil, List.replicate, List.getElem?_cons_zero, List.getElem?_cons_succ, List.set, slotsAll, slotsOf, List.flatMap_cons, List.flatMap_nil, Bool.false_eq_true, if_true, if_false, Bool.not_true, Bool.not_false, Nat.zero_add, Nat.le_refl, Nat.zero_le, isi_none, isi_bool, isi_int, isi_str, isi_list, isi_tuple, isi_dict, dIs, dIsNot, isNone, decide_eq_true_eq, Bool.not_eq_true, Nat.reduceLeDiff, Nat.reduceAdd, Nat.reduceSub, itemsOf]; exact ⟨q, Nat.le_refl _⟩
    | int b => simp -implicitDefEqProofs only [m_law_listed, e_mC, e_mVar, e_mBin, e_kB1, e_kB2, e_kB3, e_kB4, e_kP, e_mUn, e_kU1, e_kU2, e_mNil, e_mCons, e_kC1, e_kC2, e_mB, e_kA1, e_kA2, e_mTup, e_mLst, e_kT1, e_kL1, e_kJ, e_kJb, e_mIf, e_kI1, e_mAndV, e_kV1, e_kV2, e_mOrV, e_kO1, e_kO2, e_mNotV, e_kN1, e_tOf, e_kQ1, e_tAndM, e_tOrM, e_kAn, e_kOr, e_tNotM, e_tYes, e_toB, e_looks0, e_looks1, e_lookv, e_looko, e_looks, e_Od, e_argv, e_argo, e_args, e_argsOf0, e_argsOf1, e_one, e_mCall, e_kF1, e_kF2, e_kF3, e_at0, e_at1, e_at2, e_at3, e_at4, e_at5, e_at6, e_at7, e_mIsi, e_mSl, e_kS1, e_kS2, e_kS3, e_oNone, e_oSome, e_sNext, e_sSeq, e_kSeq0, e_kSeq1, e_sIf, e_kIf, e_sRet, e_kRet, e_retv, e_reto, e_rets, e_sSet, e_kSt, e_wrO, e_wru, e_wrv, e_wrl, e_storv, e_dic0, e_dic1, e_lookd0, e_storo, e_stors, e_sFor, e_kFor, e_for0, e_for1, e_kBd, e_kGo0, e_kGo1, e_iSeq, e_iRng, e_gSet, e_mLc, e_kLc1, e_kLc2, e_wipe0, e_wipe1, e_frz0, e_frz1, e_frz, e_fnM, e_kFn0, e_kFn1, e_chain, e_put, e_own, bind_ite, wp_ite, bind_draw, bind_r, wp_ret, wp_draw, e_chk, bind_s, pools, O.toD, List.append_nil, List.nil_append, List.cons_append, List.length_cons, List.length_nil, List.replicate, List.getElem?_cons_zero, List.getElem?_cons_succ, List.set, slotsAll, slotsOf, List.flatMap_cons, List.flatMap_nil, Bool.false_eq_true, if_true, if_false, Bool.not_true, Bool.not_false, Nat.zero_add, Nat.le_refl, Nat.zero_le, isi_none, isi_bool, isi_int, isi_str, isi_list, isi_tuple, isi_dict, dIs, dIsNot, isNone, decide_eq_true_eq, Bool.not_eq_true, Nat.reduceLeDiff, Nat.reduceAdd, Nat.reduceSub, itemsOf]; exact ⟨q, Nat.le_refl _⟩
    | str z => simp -implicitDefEqProofs only [m_law_listed, e_mC, e_mVar, e_mBin, e_kB1, e_kB2, e_kB3, e_kB4, e_kP, e_mUn, e_kU1, e_kU2, e_mNil, e_mCons, e_kC1, e_kC2, e_mB, e_kA1, e_kA2, e_mTup, e_mLst, e_kT1, e_kL1, e_kJ, e_kJb, e_mIf, e_kI1, e_mAndV, e_kV1, e_kV2, e_mOrV, e_kO1, e_kO2, e_mNotV, e_kN1, e_tOf, e_kQ1, e_tAndM, e_tOrM, e_kAn, e_kOr, e_tNotM, e_tYes, e_toB, e_looks0, e_looks1, e_lookv, e_looko, e_looks, e_Od, e_argv, e_argo, e_args, e_argsOf0, e_argsOf1, e_one, e_mCall, e_kF1, e_kF2, e_kF3, e_at0, e_at1, e_at2, e_at3, e_at4, e_at5, e_at6, e_at7, e_mIsi, e_mSl, e_kS1, e_kS2, e_kS3, e_oNone, e_oSome, e_sNext, e_sSeq, e_kSeq0, e_kSeq1, e_sIf, e_kIf, e_sRet, e_kRet, e_retv, e_reto, e_rets, e_sSet, e_kSt, e_wrO, e_wru, e_wrv, e_wrl, e_storv, e_dic0, e_dic1, e_lookd0, e_storo, e_stors, e_sFor, e_kFor, e_for0, e_for1, e_kBd, e_kGo0, e_kGo1, e_iSeq, e_iRng, e_gSet, e_mLc, e_kLc1, e_kLc2, e_wipe0, e_wipe1, e_frz0, e_frz1, e_frz, e_fnM, e_kFn0, e_kFn1, e_chain, e_put, e_own, bind_ite, wp_ite, bind_draw, bind_r, wp_ret, wp_draw, e_chk, bind_s, pools, O.toD, List.append_nil, List.nil_append, List.cons_append, List.length_cons, List.length_nil, List.replicate, List.getElem?_cons_zero, List.getElem?_cons_succ, List.set, slotsAll, slotsOf, List.flatMap_cons, List.flatMap_nil, Bool.false_eq_true, if_true, if_false, Bool.not_true, Bool.not_false, Nat.zero_add, Nat.le_refl, Nat.zero_le, isi_none, isi_bool, isi_int, isi_str, isi_list, isi_tuple, isi_dict, dIs, dIsNot, isNone, decide_eq_true_eq, Bool.not_eq_true, Nat.reduceLeDiff, Nat.reduceAdd, Nat.reduceSub, itemsOf]; exact ⟨q, Nat.le_refl _⟩
    | list z => simp -implicitDefEqProofs only [m_law_listed, e_mC, e_mVar, e_mBin, e_kB1, e_kB2, e_kB3, e_kB4, e_kP, e_mUn, e_kU1, e_kU2, e_mNil, e_mCons, e_kC1, e_kC2, e_mB, e_kA1, e_kA2, e_mTup, e_mLst, e_kT1, e_kL1, e_kJ, e_kJb, e_mIf, e_kI1, e_mAndV, e_kV1, e_kV2, e_mOrV, e_kO1, e_kO2, e_mNotV, e_kN1, e_tOf, e_kQ1, e_tAndM, e_tOrM, e_kAn, e_kOr, e_tNotM, e_tYes, e_toB, e_looks0, e_looks1, e_lookv, e_looko, e_looks, e_Od, e_argv, e_argo, e_args, e_argsOf0, e_argsOf1, e_one, e_mCall, e_kF1, e_kF2, e_kF3, e_at0, e_at1, e_at2, e_at3, e_at4, e_at5, e_at6, e_at7, e_mIsi, e_mSl, e_kS1, e_kS2, e_kS3, e_oNone, e_oSome, e_sNext, e_sSeq, e_kSeq0, e_kSeq1, e_sIf, e_kIf, e_sRet, e_kRet, e_retv, e_reto, e_rets, e_sSet, e_kSt, e_wrO, e_wru, e_wrv, e_wrl, e_storv, e_dic0, e_dic1, e_lookd0, e_storo, e_stors, e_sFor, e_kFor, e_for0, e_for1, e_kBd, e_kGo0, e_kGo1, e_iSeq, e_iRng, e_gSet, e_mLc, e_kLc1, e_kLc2, e_wipe0, e_wipe1, e_frz0, e_frz1, e_frz, e_fnM, e_kFn0, e_kFn1, e_chain, e_put, e_own, bind_ite, wp_ite, bind_draw, bind_r, wp_ret, wp_draw, e_chk, bind_s, pools, O.toD, List.append_nil, List.nil_append, List.cons_append, List.length_cons, List.length_nil, List.replicate, List.getElem?_cons_zero, List.getElem?_cons_succ, List.set, slotsAll, slotsOf, List.flatMap_cons, List.flatMap_nil, Bool.false_eq_true, if_true, if_false, Bool.not_true, Bool.not_false, Nat.zero_add, Nat.le_refl, Nat.zero_le, isi_none, isi_bool, isi_int, isi_str, isi_list, isi_tuple, isi_dict, dIs, dIsNot, isNone, decide_eq_true_eq, Bool.not_eq_true, Nat.reduceLeDiff, Nat.reduceAdd, Nat.reduceSub, itemsOf]; exact ⟨q, Nat.le_refl _⟩
    | dict kvs => exact q.nodict.elim
    | tuple xs =>
      obtain ⟨k, rfl, hx⟩ := q.tup_inv
      have hl := wtA_len xs
      have hwx : wt (.tuple xs) = wtA xs + 8 := by simp only [wt]
      rw [hwx] at hw
      have lc := lc_wp (g := gSet 2) (mt := tYesM) (m := mCall (m_law_listed n) (mCons (mVar 2) (mCons (mBin dSub (mVar 1) (mC (.int 1))) mNil))) (vs := [2]) (σ := [.v (.tuple xs), .v (.int j), .u]) (P := fun x y => Bd B k y ∧ wt y ≤ wt x) xs (fun x hm => ⟨[.v (.tuple xs), .v (.int j), .v x], rfl, rfl, by
        simp -implicitDefEqProofs only [e_mC, e_mVar, e_mBin, e_kB1, e_kB2, e_kB3, e_kB4, e_kP, e_mUn, e_kU1, e_kU2, e_mNil, e_mCons, e_kC1, e_kC2, e_mB, e_kA1, e_kA2, e_mTup, e_mLst, e_kT1, e_kL1, e_kJ, e_kJb, e_mIf, e_kI1, e_mAndV, e_kV1, e_kV2, e_mOrV, e_kO1, e_kO2, e_mNotV, e_kN1, e_tOf, e_kQ1, e_tAndM, e_tOrM, e_kAn, e_kOr, e_tNotM, e_tYes, e_toB, e_looks0, e_looks1, e_lookv, e_looko, e_looks, e_Od, e_argv, e_argo, e_args, e_argsOf0, e_argsOf1, e_one, e_mCall, e_kF1, e_kF2, e_kF3, e_at0, e_at1, e_at2, e_at3, e_at4, e_at5, e_at6, e_at7, e_mIsi, e_mSl, e_kS1, e_kS2, e_kS3, e_oNone, e_oSome, e_sNext, e_sSeq, e_kSeq0, e_kSeq1, e_sIf, e_kIf, e_sRet, e_kRet, e_retv, e_reto, e_rets, e_sSet, e_kSt, e_wrO, e_wru, e_wrv, e_wrl, e_storv, e_dic0, e_dic1, e_lookd0, e_storo, e_stors, e_sFor, e_kFor, e_for0, e_for1, e_kBd, e_kGo0, e_kGo1, e_iSeq, e_iRng, e_gSet, e_mLc, e_kLc1, e_kLc2, e_wipe0, e_wipe1, e_frz0, e_frz1, e_frz, e_fnM, e_kFn0, e_kFn1, e_chain, e_put, e_own, bind_ite, wp_ite, bind_draw, bind_r, wp_ret, wp_draw, e_chk, bind_s, pools, O.toD, List.append_nil, List.nil_append, List.cons_append, List.length_cons, List.length_nil, List.replicate, List.getElem?_cons_zero, List.getElem?_cons_succ, List.set, slotsAll, slotsOf, List.flatMap_cons, List.flatMap_nil, Bool.false_eq_true, if_true, if_false, Bool.not_true, Bool.not_false, Nat.zero_add, Nat.le_refl, Nat.zero_le, isi_none, isi_bool, isi_int, isi_str, isi_list, isi_tuple, isi_dict, dIs, dIsNot, isNone, decide_eq_true_eq, Bool.not_eq_true, Nat.reduceLeDiff, Nat.reduceAdd, Nat.reduceSub, itemsOf, T.wp_bind, dSub_int]
        refine T.wp_mono (ih k x (j - 1) (hx x hm) (by omega) (by have := wtA_mem hm; omega)) fun r hr => ?_
        cases r with
        | s i => exact hr.elim
        | v y =>
          simp -implicitDefEqProofs only [e_mC, e_mVar, e_mBin, e_kB1, e_kB2, e_kB3, e_kB4, e_kP, e_mUn, e_kU1, e_kU2, e_mNil, e_mCons, e_kC1, e_kC2, e_mB, e_kA1, e_kA2, e_mTup, e_mLst, e_kT1, e_kL1, e_kJ, e_kJb, e_mIf, e_kI1, e_mAndV, e_kV1, e_kV2, e_mOrV, e_kO1, e_kO2, e_mNotV, e_kN1, e_tOf, e_kQ1, e_tAndM, e_tOrM, e_kAn, e_kOr, e_tNotM, e_tYes, e_toB, e_looks0, e_looks1, e_lookv, e_looko, e_looks, e_Od, e_argv, e_argo, e_args, e_argsOf0, e_argsOf1, e_one, e_mCall, e_kF1, e_kF2, e_kF3, e_at0, e_at1, e_at2, e_at3, e_at4, e_at5, e_at6, e_at7, e_mIsi, e_mSl, e_kS1, e_kS2, e_kS3, e_oNone, e_oSome, e_sNext, e_sSeq, e_kSeq0, e_kSeq1, e_sIf, e_kIf, e_sRet, e_kRet, e_retv, e_reto, e_rets, e_sSet, e_kSt, e_wrO, e_wru, e_wrv, e_wrl, e_storv, e_dic0, e_dic1, e_lookd0, e_storo, e_stors, e_sFor, e_kFor, e_for0, e_for1, e_kBd, e_kGo0, e_kGo1, e_iSeq, e_iRng, e_gSet, e_mLc, e_kLc1, e_kLc2, e_wipe0, e_wipe1, e_frz0, e_frz1, e_frz, e_fnM, e_kFn0, e_kFn1, e_chain, e_put, e_own, bind_ite, wp_ite, bind_draw, bind_r, wp_ret, wp_draw, e_chk, bind_s, pools, O.toD, List.append_nil, List.nil_append, List.cons_append, List.length_cons, List.length_nil, List.replicate, List.getElem?_cons_zero, List.getElem?_cons_succ, List.set, slotsAll, slotsOf, List.flatMap_cons, List.flatMap_nil, Bool.false_eq_true, if_true, if_false, Bool.not_true, Bool.not_false, Nat.zero_add, Nat.le_refl, Nat.zero_le, isi_none, isi_bool, isi_int, isi_str, isi_list, isi_tuple, isi_dict, dIs, dIsNot, isNone, decide_eq_true_eq, Bool.not_eq_true, Nat.reduceLeDiff, Nat.reduceAdd, Nat.reduceSub, itemsOf, ite_self]
          exact ⟨y, rfl, hr, trivial⟩
        | o o =>
          obtain ⟨y, e, p⟩ := hr
          cases o with
          | pool => cases e
          | dic kvs => cases e; exact p.1.nodict.elim
          | rng _ _ => cases e
          | bor _ _ => cases e; exact p.1.nodict.elim
          | lst l =>
            cases e
            simp -implicitDefEqProofs only [e_mC, e_mVar, e_mBin, e_kB1, e_kB2, e_kB3, e_kB4, e_kP, e_mUn, e_kU1, e_kU2, e_mNil, e_mCons, e_kC1, e_kC2, e_mB, e_kA1, e_kA2, e_mTup, e_mLst, e_kT1, e_kL1, e_kJ, e_kJb, e_mIf, e_kI1, e_mAndV, e_kV1, e_kV2, e_mOrV, e_kO1, e_kO2, e_mNotV, e_kN1, e_tOf, e_kQ1, e_tAndM, e_tOrM, e_kAn, e_kOr, e_tNotM, e_tYes, e_toB, e_looks0, e_looks1, e_lookv, e_looko, e_looks, e_Od, e_argv, e_argo, e_args, e_argsOf0, e_argsOf1, e_one, e_mCall, e_kF1, e_kF2, e_kF3, e_at0, e_at1, e_at2, e_at3, e_at4, e_at5, e_at6, e_at7, e_mIsi, e_mSl, e_kS1, e_kS2, e_kS3, e_oNone, e_oSome, e_sNext, e_sSeq, e_kSeq0, e_kSeq1, e_sIf, e_kIf, e_sRet, e_kRet, e_retv, e_reto, e_rets, e_sSet, e_kSt, e_wrO, e_wru, e_wrv, e_wrl, e_storv, e_dic0, e_dic1, e_lookd0, e_storo, e_stors, e_sFor, e_kFor, e_for0, e_for1, e_kBd, e_kGo0, e_kGo1, e_iSeq, e_iRng, e_gSet, e_mLc, e_kLc1, e_kLc2, e_wipe0, e_wipe1, e_frz0, e_frz1, e_frz, e_fnM, e_kFn0, e_kFn1, e_chain, e_put, e_own, bind_ite, wp_ite, bind_draw, bind_r, wp_ret, wp_draw, e_chk, bind_s, pools, O.toD, List.append_nil, List.nil_append, List.cons_append, List.length_cons, List.length_nil, List.replicate, List.getElem?_cons_zero, List.getElem?_cons_succ, List.set, slotsAll, slotsOf, List.flatMap_cons, List.flatMap_nil, Bool.false_eq_true, if_true, if_false, Bool.not_true, Bool.not_false, Nat.zero_add, Nat.le_refl, Nat.zero_le, isi_none, isi_bool, isi_int, isi_str, isi_list, isi_tuple, isi_dict, dIs, dIsNot, isNone, decide_eq_true_eq, Bool.not_eq_true, Nat.reduceLeDiff, Nat.reduceAdd, Nat.reduceSub, itemsOf, ite_self]
            exact ⟨_, rfl, p, trivial⟩⟩)
      have hl2 : xs.length ≤ 100000 := by omega
      simp -implicitDefEqProofs only [m_law_listed, e_mC, e_mVar, e_mBin, e_kB1, e_kB2, e_kB3, e_kB4, e_kP, e_mUn, e_kU1, e_kU2, e_mNil, e_mCons, e_kC1, e_kC2, e_mB, e_kA1, e_kA2, e_mTup, e_mLst, e_kT1, e_kL1, e_kJ, e_kJb, e_mIf, e_kI1, e_mAndV, e_kV1, e_kV2, e_mOrV, e_kO1, e_kO2, e_mNotV, e_kN1, e_tOf, e_kQ1, e_tAndM, e_tOrM, e_kAn, e_kOr, e_tNotM, e_tYes, e_toB, e_looks0, e_looks1, e_lookv, e_looko, e_looks, e_Od, e_argv, e_argo, e_args, e_argsOf0, e_argsOf1, e_one, e_mCall, e_kF1, e_kF2, e_kF3, e_at0, e_at1, e_at2, e_at3, e_at4, e_at5, e_at6, e_at7, e_mIsi, e_mSl, e_kS1, e_kS2, e_kS3, e_oNone, e_oSome, e_sNext, e_sSeq, e_kSeq0, e_kSeq1, e_sIf, e_kIf, e_sRet, e_kRet, e_retv, e_reto, e_rets, e_sSet, e_kSt, e_wrO, e_wru, e_wrv, e_wrl, e_storv, e_dic0, e_dic1, e_lookd0, e_storo, e_stors, e_sFor, e_kFor, e_for0, e_for1, e_kBd, e_kGo0, e_kGo1, e_iSeq, e_iRng, e_gSet, e_mLc, e_kLc1, e_kLc2, e_wipe0, e_wipe1, e_frz0, e_frz1, e_frz, e_fnM, e_kFn0, e_kFn1, e_chain, e_put, e_own, bind_ite, wp_ite, bind_draw, bind_r, wp_ret, wp_draw, e_chk, bind_s, pools, O.toD, List.append_nil, List.nil_append, List.cons_append, List.length_cons, List.length_nil, List.replicate, List.getElem?_cons_zero, List.getElem?_cons_succ, List.set, slotsAll, slotsOf, List.flatMap_cons, List.flatMap_nil, Bool.false_eq_true, if_true, if_false, Bool.not_true, Bool.not_false, Nat.zero_add, Nat.le_refl, Nat.zero_le, isi_none, isi_bool, isi_int, isi_str, isi_list, isi_tuple, isi_dict, dIs, dIsNot, isNone, decide_eq_true_eq, Bool.not_eq_true, Nat.reduceLeDiff, Nat.reduceAdd, Nat.reduceSub, itemsOf, hl2, dEq_int, bList_tup]
      split
      · exact ⟨_, rfl, hx, by simp only [wt]; omega⟩
      simp -implicitDefEqProofs only [T.wp_bind]
      refine T.wp_mono lc fun z hz => ?_
      have pl : ∀ k, frz [Sl.v (.tuple xs), .v (.int j), .u] k = [.v (.tuple xs), .v (.int j), .u] := frz_plain fun i x hi => by
        match i, hi with
        | i + 3, hi => simp at hi
      obtain ⟨z1, z2⟩ := z
      simp -implicitDefEqProofs only [e_mC, e_mVar, e_mBin, e_kB1, e_kB2, e_kB3, e_kB4, e_kP, e_mUn, e_kU1, e_kU2, e_mNil, e_mCons, e_kC1, e_kC2, e_mB, e_kA1, e_kA2, e_mTup, e_mLst, e_kT1, e_kL1, e_kJ, e_kJb, e_mIf, e_kI1, e_mAndV, e_kV1, e_kV2, e_mOrV, e_kO1, e_kO2, e_mNotV, e_kN1, e_tOf, e_kQ1, e_tAndM, e_tOrM, e_kAn, e_kOr, e_tNotM, e_tYes, e_toB, e_looks0, e_looks1, e_lookv, e_looko, e_looks, e_Od, e_argv, e_argo, e_args, e_argsOf0, e_argsOf1, e_one, e_mCall, e_kF1, e_kF2, e_kF3, e_at0, e_at1, e_at2, e_at3, e_at4, e_at5, e_at6, e_at7, e_mIsi, e_mSl, e_kS1, e_kS2, e_kS3, e_oNone, e_oSome, e_sNext, e_sSeq, e_kSeq0, e_kSeq1, e_sIf, e_kIf, e_sRet, e_kRet, e_retv, e_reto, e_rets, e_sSet, e_kSt, e_wrO, e_wru, e_wrv, e_wrl, e_storv, e_dic0, e_dic1, e_lookd0, e_storo, e_stors, e_sFor, e_kFor, e_for0, e_for1, e_kBd, e_kGo0, e_kGo1, e_iSeq, e_iRng, e_gSet, e_mLc, e_kLc1, e_kLc2, e_wipe0, e_wipe1, e_frz0, e_frz1, e_frz, e_fnM, e_kFn0, e_kFn1, e_chain, e_put, e_own, bind_ite, wp_ite, bind_draw, bind_r, wp_ret, wp_draw, e_chk, bind_s, pools, O.toD, List.append_nil, List.nil_append, List.cons_append, List.length_cons, List.length_nil, List.replicate, List.getElem?_cons_zero, List.getElem?_cons_succ, List.set, slotsAll, slotsOf, List.flatMap_cons, List.flatMap_nil, Bool.false_eq_true, if_true, if_false, Bool.not_true, Bool.not_false, Nat.zero_add, Nat.le_refl, Nat.zero_le, isi_none, isi_bool, isi_int, isi_str, isi_list, isi_tuple, isi_dict, dIs, dIsNot, isNone, decide_eq_true_eq, Bool.not_eq_true, Nat.reduceLeDiff, Nat.reduceAdd, Nat.reduceSub, itemsOf, pl, bTuple_list]
      refine ⟨fun y hy => ?_, ?_⟩
      · obtain ⟨x, _, p⟩ := hz.mem y hy
        exact p.1
      · have := hz.wt fun x y p => p.2
        simp only [wt] at this ⊢; omega
def deep : Nat → DL.D
  | 0 => .tuple []
  | n + 1 => .tuple [deep n]
def oddL : List DL.D := [deep 90, .tuple [.str "plan", deep 90, deep 90], .none, .int 0, .int 1, .bool true, .bool false, .str "", .str "x", .tuple [], .list [], .dict [], .tuple [.tuple []], .tuple [.tuple [], .tuple []], .tuple [.int 0], .tuple [.int 1, .int 2], .tuple [.str "x"], .tuple [.list []], .dict [(.str "a", .int 1)], .tuple [.none], .tuple [.tuple [.tuple []]], .int (-1)]
theorem odd_loop : ∀ (ds : List DL.D) (k : Nat) (s : Sl), (s = .u ∨ ∃ d, s = .v d) → ∃ s', sForGo (gSet 1) (sSet 0 (mTup (mCons (mVar 0) mNil))) ds [.v (deep k), s] = .ret (.nx, [.v (deep (k + ds.length)), s']) := by
  intro ds
  induction ds with
  | nil => intro k s _; exact ⟨s, rfl⟩
  | cons d ds ih =>
    intro k s hs
    obtain ⟨s', h⟩ := ih (k + 1) (.v d) (.inr ⟨d, rfl⟩)
    refine ⟨s', ?_⟩
    rw [List.length_cons, show k + (ds.length + 1) = k + 1 + ds.length by omega, ← h]
    rcases hs with rfl | ⟨e, rfl⟩
    · simp -implicitDefEqProofs only [e_mC, e_mVar, e_mBin, e_kB1, e_kB2, e_kB3, e_kB4, e_kP, e_mUn, e_kU1, e_kU2, e_mNil, e_mCons, e_kC1, e_kC2, e_mB, e_kA1, e_kA2, e_mTup, e_mLst, e_kT1, e_kL1, e_kJ, e_kJb, e_mIf, e_kI1, e_mAndV, e_kV1, e_kV2, e_mOrV, e_kO1, e_kO2, e_mNotV, e_kN1, e_tOf, e_kQ1, e_tAndM, e_tOrM, e_kAn, e_kOr, e_tNotM, e_tYes, e_toB, e_looks0, e_looks1, e_lookv, e_looko, e_looks, e_Od, e_argv, e_argo, e_args, e_argsOf0, e_argsOf1, e_one, e_mCall, e_kF1, e_kF2, e_kF3, e_at0, e_at1, e_at2, e_at3, e_at4, e_at5, e_at6, e_at7, e_mIsi, e_mSl, e_kS1, e_kS2, e_kS3, e_oNone, e_oSome, e_sNext, e_sSeq, e_kSeq0, e_kSeq1, e_sIf, e_kIf, e_sRet, e_kRet, e_retv, e_reto, e_rets, e_sSet, e_kSt, e_wrO, e_wru, e_wrv, e_wrl, e_storv, e_dic0, e_dic1, e_lookd0, e_storo, e_stors, e_sFor, e_kFor, e_for0, e_for1, e_kBd, e_kGo0, e_kGo1, e_iSeq, e_iRng, e_gSet, e_mLc, e_kLc1, e_kLc2, e_wipe0, e_wipe1, e_frz0, e_frz1, e_frz, e_fnM, e_kFn0, e_kFn1, e_chain, e_put, e_own, bind_ite, wp_ite, bind_draw, bind_r, wp_ret, wp_draw, e_chk, bind_s, pools, O.toD, List.append_nil, List.nil_append, List.cons_append, List.length_cons, List.length_nil, List.replicate, List.getElem?_cons_zero, List.getElem?_cons_succ, List.set, slotsAll, slotsOf, List.flatMap_cons, List.flatMap_nil, Bool.false_eq_true, if_true, if_false, Bool.not_true, Bool.not_false, Nat.zero_add, Nat.le_refl, Nat.zero_le, isi_none, isi_bool, isi_int, isi_str, isi_list, isi_tuple, isi_dict, dIs, dIsNot, isNone, decide_eq_true_eq, Bool.not_eq_true, Nat.reduceLeDiff, Nat.reduceAdd, Nat.reduceSub, itemsOf]
      rfl
    · simp -implicitDefEqProofs only [e_mC, e_mVar, e_mBin, e_kB1, e_kB2, e_kB3, e_kB4, e_kP, e_mUn, e_kU1, e_kU2, e_mNil, e_mCons, e_kC1, e_kC2, e_mB, e_kA1, e_kA2, e_mTup, e_mLst, e_kT1, e_kL1, e_kJ, e_kJb, e_mIf, e_kI1, e_mAndV, e_kV1, e_kV2, e_mOrV, e_kO1, e_kO2, e_mNotV, e_kN1, e_tOf, e_kQ1, e_tAndM, e_tOrM, e_kAn, e_kOr, e_tNotM, e_tYes, e_toB, e_looks0, e_looks1, e_lookv, e_looko, e_looks, e_Od, e_argv, e_argo, e_args, e_argsOf0, e_argsOf1, e_one, e_mCall, e_kF1, e_kF2, e_kF3, e_at0, e_at1, e_at2, e_at3, e_at4, e_at5, e_at6, e_at7, e_mIsi, e_mSl, e_kS1, e_kS2, e_kS3, e_oNone, e_oSome, e_sNext, e_sSeq, e_kSeq0, e_kSeq1, e_sIf, e_kIf, e_sRet, e_kRet, e_retv, e_reto, e_rets, e_sSet, e_kSt, e_wrO, e_wru, e_wrv, e_wrl, e_storv, e_dic0, e_dic1, e_lookd0, e_storo, e_stors, e_sFor, e_kFor, e_for0, e_for1, e_kBd, e_kGo0, e_kGo1, e_iSeq, e_iRng, e_gSet, e_mLc, e_kLc1, e_kLc2, e_wipe0, e_wipe1, e_frz0, e_frz1, e_frz, e_fnM, e_kFn0, e_kFn1, e_chain, e_put, e_own, bind_ite, wp_ite, bind_draw, bind_r, wp_ret, wp_draw, e_chk, bind_s, pools, O.toD, List.append_nil, List.nil_append, List.cons_append, List.length_cons, List.length_nil, List.replicate, List.getElem?_cons_zero, List.getElem?_cons_succ, List.set, slotsAll, slotsOf, List.flatMap_cons, List.flatMap_nil, Bool.false_eq_true, if_true, if_false, Bool.not_true, Bool.not_false, Nat.zero_add, Nat.le_refl, Nat.zero_le, isi_none, isi_bool, isi_int, isi_str, isi_list, isi_tuple, isi_dict, dIs, dIsNot, isNone, decide_eq_true_eq, Bool.not_eq_true, Nat.reduceLeDiff, Nat.reduceAdd, Nat.reduceSub, itemsOf]
      rfl
theorem odd_values : m_law_odd_values [] = .ret (.o (.lst oddL)) := by
  have hr : rng1 [.int 90] = .ret (rngD 0 90) := rng1_nat (n := 90) (by decide)
  have hl : (rngD 0 90).length = 90 := by unfold rngD; rw [List.length_map, List.length_range]
  obtain ⟨s', lp⟩ := odd_loop (rngD 0 90) 0 .u (.inl rfl)
  rw [hl] at lp
  have d0 : deep 0 = .tuple [] := by rw [deep]
  rw [d0] at lp
  rw [show (0 : Nat) + 90 = 90 from rfl] at lp
  unfold oddL
  generalize deep 90 = D at *
  simp -implicitDefEqProofs only [m_law_odd_values, e_mC, e_mVar, e_mBin, e_kB1, e_kB2, e_kB3, e_kB4, e_kP, e_mUn, e_kU1, e_kU2, e_mNil, e_mCons, e_kC1, e_kC2, e_mB, e_kA1, e_kA2, e_mTup, e_mLst, e_kT1, e_kL1, e_kJ, e_kJb, e_mIf, e_kI1, e_mAndV, e_kV1, e_kV2, e_mOrV, e_kO1, e_kO2, e_mNotV, e_kN1, e_tOf, e_kQ1, e_tAndM, e_tOrM, e_kAn, e_kOr, e_tNotM, e_tYes, e_toB, e_looks0, e_looks1, e_lookv, e_looko, e_looks, e_Od, e_argv, e_argo, e_args, e_argsOf0, e_argsOf1, e_one, e_mCall, e_kF1, e_kF2, e_kF3, e_at0, e_at1, e_at2, e_at3, e_at4, e_at5, e_at6, e_at7, e_mIsi, e_mSl, e_kS1, e_kS2, e_kS3, e_oNone, e_oSome, e_sNext, e_sSeq, e_kSeq0, e_kSeq1, e_sIf, e_kIf, e_sRet, e_kRet, e_retv, e_reto, e_rets, e_sSet, e_kSt, e_wrO, e_wru, e_wrv, e_wrl, e_storv, e_dic0, e_dic1, e_lookd0, e_storo, e_stors, e_sFor, e_kFor, e_for0, e_for1, e_kBd, e_kGo0, e_kGo1, e_iSeq, e_iRng, e_gSet, e_mLc, e_kLc1, e_kLc2, e_wipe0, e_wipe1, e_frz0, e_frz1, e_frz, e_fnM, e_kFn0, e_kFn1, e_chain, e_put, e_own, bind_ite, wp_ite, bind_draw, bind_r, wp_ret, wp_draw, e_chk, bind_s, pools, O.toD, List.append_nil, List.nil_append, List.cons_append, List.length_cons, List.length_nil, List.replicate, List.getElem?_cons_zero, List.getElem?_cons_succ, List.set, slotsAll, slotsOf, List.flatMap_cons, List.flatMap_nil, Bool.false_eq_true, if_true, if_false, Bool.not_true, Bool.not_false, Nat.zero_add, Nat.le_refl, Nat.zero_le, isi_none, isi_bool, isi_int, isi_str, isi_list, isi_tuple, isi_dict, dIs, dIsNot, isNone, decide_eq_true_eq, Bool.not_eq_true, Nat.reduceLeDiff, Nat.reduceAdd, Nat.reduceSub, itemsOf, hr, lp, dNeg_int, e_dic0, e_dic1, e_lookd0]
  rfl
/-- a value that may be shown and looked at -/
def Fine (d : DL.D) : Prop := reprOk d = true ∧ wt d ≤ 100000
def fineB (d : DL.D) : Bool := reprOk d && decide (wt d ≤ 100000)
theorem fine_of {d : DL.D} (h : fineB d = true) : Fine d := by
  unfold fineB at h
  rw [Bool.and_eq_true] at h
  exact ⟨h.1, of_decide_eq_true h.2⟩
theorem Fine.len {d : DL.D} (h : Fine d) : ∀ xs, d = .tuple xs → xs.length ≤ 100000 := fun xs e => by
  have h2 := h.2
  subst e
  have := wtA_len xs
  simp only [wt] at h2
  omega
theorem Bd.fine {B h : Nat} {d : DL.D} (hB : B < 2 ^ 64) (q : Bd B h d) (hh : h ≤ 150) (hw : wt d ≤ 100000) : Fine d := ⟨reprOk_of hB q hh hw, hw⟩
theorem deep_bd {B : Nat} : ∀ n, Bd B (n + 1) (deep n) ∧ wt (deep n) = 10 * n + 8 := by
  intro n
  induction n with
  | zero => rw [deep]; exact ⟨fun _ z => (nomatch z), by simp only [wt, wtA]⟩
  | succ n ih =>
    rw [deep]
    refine ⟨fun x hx => ?_, ?_⟩
    · rw [List.mem_singleton.mp hx]; exact ih.1
    · simp only [wt, wtA, ih.2]; omega
theorem odd_fine : ∀ v ∈ oddL, Fine v := by
  obtain ⟨b, w⟩ := deep_bd (B := 0) 90
  have sm : ([.none, .int 0, .int 1, .bool true, .bool false, .str "", .str "x", .tuple [], .list [], .dict [], .tuple [.tuple []], .tuple [.tuple [], .tuple []], .tuple [.int 0], .tuple [.int 1, .int 2], .tuple [.str "x"], .tuple [.list []], .dict [(.str "a", .int 1)], .tuple [.none], .tuple [.tuple [.tuple []]], .int (-1)] : List DL.D).all fineB = true := by decide +kernel
  unfold oddL
  refine List.forall_mem_cons.mpr ⟨b.fine (by decide) (by decide) (by rw [w]; decide), List.forall_mem_cons.mpr ⟨?_, fun v hv => fine_of (List.all_eq_true.mp sm v hv)⟩⟩
  refine Bd.fine (B := 0) (h := 92) (by decide) (List.forall_mem_cons.mpr ⟨.str (by unfold strOk; decide), List.forall_mem_cons.mpr ⟨b, List.forall_mem_cons.mpr ⟨b, fun _ z => nomatch z⟩⟩⟩) (by decide) ?_
  simp only [wt, wtA, w]
  decide
end DL

namespace DL
open PySem PySem.Spec PyProof.Rows L2
section
variable {K : PySem.W.Frag} {H : Hp} {σV : L2.St} {D : Ends}
/-! ### x, y = a, b -/
def sPar (i j : Nat) (ms : MA) : MS := fun σ => (ms σ).bind fun p => (looks (frz σ p.2) p.1).bind fun ds => (gsCons (gSet i) (gsCons (gSet j) gsNil) ds (frz (frz σ p.2) (slotsAll p.1))).bind fun σ' => .ret (.nx, σ')
theorem sPar_ls {i j : Nat} {ms : MA} (h : LS K (sPar i j ms) D σV H) : tPar i j (LA K ms) D σV H := by
  obtain ⟨F, σ, s, h⟩ := h
  unfold sPar at h
  rw [T.wp_bind] at h
  refine ⟨F, σ, s, T.wp_mono h fun p h vs F1 H1 s1 g1 r1 => ?_⟩
  rw [T.wp_bind] at h
  obtain ⟨ds, h, F2, e2, s2, r2⟩ := escs_reps r1 s1 h
  have g2 := g1.wid (l := slotsAll p.1) e2
  rw [T.wp_bind] at h
  have hg : LGs K ([i] ++ ([j] ++ [])) (gsCons (gSet i) (gsCons (gSet j) gsNil)) vs σV H1 (fun σV' H' => D.nx σV' H') :=
    ⟨F2, _, ds, s2, r2, T.wp_mono h fun σ' h σV' s' g' _ => h σV' F2 H1 s' (g2.trans g')⟩
  obtain ⟨v, vs1, e, h1⟩ := gsCons_lg hg
  have h1 := gSet_lg h1
  obtain ⟨w, vs2, e', h2⟩ := gsCons_lg h1
  have h2 := gSet_lg h2
  obtain ⟨e2, h3⟩ := gsNil_lg h2
  exact ⟨v, w, by rw [e, e', e2], h3⟩
end
section
variable {X : Cx}
theorem ds_par (i j : Nat) {x y : Str} {a b : Expr} {ms : MA} {px py pt pos : Pos} {kt k2 : Nat} {pt2 : Pos} (hN : X.N.Nodup) (ha : DA ms X [a, b]) (hc : X.calm = true := by rfl) (hi : X.N[i]? = some x := by rfl) (hj : X.N[j]? = some y := by rfl) (hij : i ≠ j := by decide)
    (hx : X.env.scope.names.lookup x = some .local := by rfl) (hy : X.env.scope.names.lookup y = some .local := by rfl)
    (hw : swappedStores [.Tuple [.Name x px, .Name y py] kt pt] (.Tuple [a, b] k2 pt2) X.env = pure (some [x, y]) := by rfl)
    (hs : swapsWithSole [.Tuple [.Name x px, .Name y py] kt pt] (.Tuple [a, b] k2 pt2) pos.line X.env = pure false := by rfl) :
    DS (sPar i j ms) X (.Assign [.Tuple [.Name x px, .Name y py] kt pt] (.Tuple [a, b] k2 pt2) pos) := ⟨PS.imp (ps_par hc hN hi hj hij hx hy ha.pa hw hs) fun _ _ _ h => sPar_ls h⟩
end
/-! ### zip(a, b) -/
def zipL (xs ys : List DL.D) : List DL.D := List.zipWith (fun a b => .tuple [a, b]) xs ys
def zip2 (x y : DL.D) : T (List DL.D) := match x, y with
  | .list xs, .list ys => .ret (zipL xs ys)
  | .tuple xs, .tuple ys => .ret (zipL xs ys)
  | _, _ => .stop
def zipD : List DL.D → T (List DL.D)
  | [x, y] => zip2 x y
  | _ => .stop
def iZipM (ms : MA) : MI := fun σ => (ms σ).bind fun p => (looks (frz σ p.2) p.1).bind fun ds => (zipD ds).bind fun l => .ret (l, p.2 ++ slotsAll p.1)
section
variable {K : PySem.W.Frag} {F H : Hp} {σV : L2.St} {a b : Addr}
theorem zipL_get {xs ys : List DL.D} {i : Nat} {x y : DL.D} (hx : xs[i]? = some x) (hy : ys[i]? = some y) : (zipL xs ys)[i]? = some (.tuple [x, y]) := by
  unfold zipL
  rw [List.getElem?_zipWith, hx, hy]
theorem ItOk.zipL {xs ys : List V} {ds es : List DL.D} (h : F a = some (.lst xs)) (r : Reps K F xs ds) (h' : F b = some (.lst ys)) (r' : Reps K F ys es) : ItOk K F (Itz K a b) (DL.zipL ds es) where
  go := fun H i e hi => by
    unfold DL.zipL at hi
    rw [List.length_zipWith] at hi
    have l1 := r.len; have l2 := r'.len
    exact ⟨xs, ys, xs[i]'(by omega), ys[i]'(by omega), .inl (.inl (e _ _ h)), .inl (.inl (e _ _ h')), List.getElem?_eq_getElem _, List.getElem?_eq_getElem _⟩
  stop := fun H e => by
    refine ⟨xs, ys, .inl (.inl (e _ _ h)), .inl (.inl (e _ _ h')), ?_⟩
    unfold DL.zipL
    rw [List.length_zipWith, r.len, r'.len]
    omega
  yld := fun H H' i x e hi ⟨T, x1, y1, ex, nT, eH, hx, hy⟩ => by
    subst eH ex
    obtain ⟨d, h1, h2⟩ := r.get (hx xs (.inl (.inl (e _ _ h))))
    obtain ⟨d', h1', h2'⟩ := r'.get (hy ys (.inl (.inl (e _ _ h'))))
    refine ⟨_, zipL_get h1 h1', fun F1 q1 q2 => ?_⟩
    have gr : Grow F1 H (upd F1 T (.tup [x1, y1])) (upd H T (.tup [x1, y1])) := .new q2 nT
    exact ⟨_, gr, .tup (.inl (.inl upd_same)) (.cons (h2.mono (q1.trans gr.ff)) (.cons (h2'.mono (q1.trans gr.ff)) .nil))⟩
theorem ItOk.zipT {xs ys : List V} {ds es : List DL.D} (h : SqT K F a xs) (r : Reps K F xs ds) (h' : SqT K F b ys) (r' : Reps K F ys es) : ItOk K F (RZ.ItzT K a b) (DL.zipL ds es) where
  go := fun H i e hi => by
    unfold DL.zipL at hi
    rw [List.length_zipWith] at hi
    have l1 := r.len; have l2 := r'.len
    exact ⟨xs, ys, xs[i]'(by omega), ys[i]'(by omega), seqT_of e h, seqT_of e h', List.getElem?_eq_getElem _, List.getElem?_eq_getElem _⟩
  stop := fun H e => by
    refine ⟨xs, ys, seqT_of e h, seqT_of e h', ?_⟩
    unfold DL.zipL
    rw [List.length_zipWith, r.len, r'.len]
    omega
  yld := fun H H' i x e hi ⟨T, x1, y1, ex, nT, eH, hx, hy⟩ => by
    subst eH ex
    obtain ⟨d, h1, h2⟩ := r.get (hx xs (seqT_of e h))
    obtain ⟨d', h1', h2'⟩ := r'.get (hy ys (seqT_of e h'))
    refine ⟨_, zipL_get h1 h1', fun F1 q1 q2 => ?_⟩
    have gr : Grow F1 H (upd F1 T (.tup [x1, y1])) (upd H T (.tup [x1, y1])) := .new q2 nT
    exact ⟨_, gr, .tup (.inl (.inl upd_same)) (.cons (h2.mono (q1.trans gr.ff)) (.cons (h2'.mono (q1.trans gr.ff)) .nil))⟩
theorem iZip_li {ms : MA} {R : It → Hp → Prop} (h : LI K (iZipM ms) σV H R) : RZ.iZipA K (LA K ms) σV H R := by
  obtain ⟨F, σ, s, h⟩ := h
  unfold iZipM at h
  rw [T.wp_bind] at h
  refine ⟨F, σ, s, T.wp_mono h fun p h vs F1 H1 s1 g1 r1 => ?_⟩
  rw [T.wp_bind] at h
  obtain ⟨ds, h, F2, e2, s2, r2⟩ := escs_reps r1 s1 h
  have g2 := g1.wid (l := slotsAll p.1) e2
  rw [← frz_append] at s2 g2
  cases r2 with
  | nil => exact h.elim
  | cons rx r2 =>
    cases r2 with
    | nil => exact h.elim
    | cons ry r2 =>
      cases r2 with
      | cons _ _ => exact h.elim
      | nil =>
        cases rx with
        | lst hx qx =>
          cases ry with
          | lst hy qy => exact ⟨_, _, _, _, rfl, .inl ⟨.inl (.inl (s2.le _ _ hx)), .inl (.inl (s2.le _ _ hy)), h _ F2 H1 s2 g2 (.zipL hx qx hy qy)⟩⟩
          | _ => exact h.elim
        | tup hx qx =>
          cases ry with
          | tup hy qy => exact ⟨_, _, _, _, rfl, .inr ⟨seqT_of s2.le hx, seqT_of s2.le hy, h _ F2 H1 s2 g2 (.zipT hx qx hy qy)⟩⟩
          | _ => exact h.elim
        | non => cases ry <;> exact h.elim
        | bl _ => cases ry <;> exact h.elim
        | int _ => cases ry <;> exact h.elim
        | str _ => cases ry <;> exact h.elim
        | dic _ _ => cases ry <;> exact h.elim
end
section
variable {X : Cx}
theorem di_zip {e e2 : Expr} {ms : MA} {p pos tpos : Pos} {elts : List Expr} {kk : Nat} (hg : Gl X "zip") (hm : X.mg "zip" = none) (ha : DA ms X [e, e2])
    (hs : starEach [e, e2] X.env = (false, eval e X.env) :: starEach [e2] X.env := by rfl) (hpl : (backTo pos (starEach [e2] X.env)).any (·.1) = false := by rfl) :
    DI (iZipM ms) X (.Tuple elts kk tpos) (.Call (.Name "zip" p) [e, e2] [] pos) := ⟨PI.imp (RZ.pi_zipA hg hm ha.pa hs hpl) fun _ _ _ h => iZip_li h⟩
end
/-! ### min(xs), max(xs) of ints -/
def minI : Int → List Int → Int
  | a, [] => a
  | a, b :: r => minI (if b < a then b else a) r
def maxI : Int → List Int → Int
  | a, [] => a
  | a, b :: r => maxI (if a < b then b else a) r
theorem minI_ok : ∀ (r : List Int) (a : Int), minI a r ∈ a :: r ∧ ∀ y ∈ a :: r, minI a r ≤ y := by
  intro r
  induction r with
  | nil => intro a; exact ⟨List.mem_cons_self .., fun y hy => by rw [List.mem_singleton.mp hy]; exact Int.le_refl _⟩
  | cons b r ih =>
    intro a
    obtain ⟨h1, h2⟩ := ih (if b < a then b else a)
    have e : minI a (b :: r) = minI (if b < a then b else a) r := rfl
    rw [e]
    refine ⟨?_, fun y hy => ?_⟩
    · rcases List.mem_cons.mp h1 with h | h
      · rw [h]; split
        · exact List.mem_cons_of_mem _ (List.mem_cons_self ..)
        · exact List.mem_cons_self ..
      · exact List.mem_cons_of_mem _ (List.mem_cons_of_mem _ h)
    · have h0 := h2 _ (List.mem_cons_self ..)
      clear h1 e
      generalize minI (if b < a then b else a) r = z at h0 h2 ⊢
      rcases List.mem_cons.mp hy with rfl | hy
      · split at h0 <;> omega
      · rcases List.mem_cons.mp hy with rfl | hy
        · split at h0 <;> omega
        · exact h2 y (List.mem_cons_of_mem _ hy)
theorem maxI_ok : ∀ (r : List Int) (a : Int), maxI a r ∈ a :: r ∧ ∀ y ∈ a :: r, y ≤ maxI a r := by
  intro r
  induction r with
  | nil => intro a; exact ⟨List.mem_cons_self .., fun y hy => by rw [List.mem_singleton.mp hy]; exact Int.le_refl _⟩
  | cons b r ih =>
    intro a
    obtain ⟨h1, h2⟩ := ih (if a < b then b else a)
    have e : maxI a (b :: r) = maxI (if a < b then b else a) r := rfl
    rw [e]
    refine ⟨?_, fun y hy => ?_⟩
    · rcases List.mem_cons.mp h1 with h | h
      · rw [h]; split
        · exact List.mem_cons_of_mem _ (List.mem_cons_self ..)
        · exact List.mem_cons_self ..
      · exact List.mem_cons_of_mem _ (List.mem_cons_of_mem _ h)
    · have h0 := h2 _ (List.mem_cons_self ..)
      clear h1 e
      generalize maxI (if a < b then b else a) r = z at h0 h2 ⊢
      rcases List.mem_cons.mp hy with rfl | hy
      · split at h0 <;> omega
      · rcases List.mem_cons.mp hy with rfl | hy
        · split at h0 <;> omega
        · exact h2 y (List.mem_cons_of_mem _ hy)
def bMinL (ds : List DL.D) : T R := match ds with
  | [.list xs] => (match intsD xs with | some (n :: ns) => .ret (.v (.int (minI n ns))) | _ => .stop)
  | _ => .stop
def bMaxL (ds : List DL.D) : T R := match ds with
  | [.list xs] => (match intsD xs with | some (n :: ns) => .ret (.v (.int (maxI n ns))) | _ => .stop)
  | _ => .stop
section
variable {X : Cx}
theorem cd_minL (hc : X.calm = true) : CallD X (.builtin "min") bMinL := by
  intro pins s σ H xs us Q I r ⟨F, ds, hle, hv, q⟩
  unfold bMinL at q
  split at q
  · split at q
    · rename_i n ns hns
      obtain ⟨x, rfl, vw⟩ := hv.one
      obtain ⟨a, ys, rfl, h1, r1⟩ := vw.list hle
      have e := ints_reps hns r1
      subst e
      refine cr_min hc pins s σ H _ us Q I r ⟨a, n :: ns, rfl, .inl (.inl h1), Nat.succ_pos _, fun m hm hl => ?_⟩
      obtain ⟨k1, k2⟩ := minI_ok ns n
      obtain rfl : m = minI n ns := Int.le_antisymm (hl _ k1) (k2 _ hm)
      exact grow_fin q hle (.v (.int _))
    · exact q.elim
  · exact q.elim
theorem cd_maxL (hc : X.calm = true) : CallD X (.builtin "max") bMaxL := by
  intro pins s σ H xs us Q I r ⟨F, ds, hle, hv, q⟩
  unfold bMaxL at q
  split at q
  · split at q
    · rename_i n ns hns
      obtain ⟨x, rfl, vw⟩ := hv.one
      obtain ⟨a, ys, rfl, h1, r1⟩ := vw.list hle
      have e := ints_reps hns r1
      subst e
      refine cr_max hc pins s σ H _ us Q I r ⟨a, n :: ns, rfl, .inl (.inl h1), Nat.succ_pos _, fun m hm hl => ?_⟩
      obtain ⟨k1, k2⟩ := maxI_ok ns n
      obtain rfl : m = maxI n ns := Int.le_antisymm (k2 _ hm) (hl _ k1)
      exact grow_fin q hle (.v (.int _))
    · exact q.elim
  · exact q.elim
end
end DL

namespace DL
open PySem PySem.Spec PyProof.Rows L2
namespace Sc
/- 0 -/
def m_is_whole : List Sl → T R := fnM 1 (sRet (mAndV (mIsi "int" (mVar 0)) (mNotV (mIsi "bool" (mVar 0)))))

/- 0, 1, 2 -/
def m_is_from : List Sl → T R := fnM 3 (sRet (mAndV (mCall m_is_whole (mCons (mVar 0) mNil)) (mChain dLe dLe (mVar 1) (mVar 0) (mVar 2))))

/- 0, 1, 2 -/
def m_is_named : List Sl → T R := fnM 3 (sRet (mAndV (mIsi "tuple" (mVar 0)) (mAndV (mBin dEq (mB bLen (mCons (mVar 0) mNil)) (mVar 2)) (mAndV (mIsi "str" (mBin dIx (mVar 0) (mC (.int 0)))) (mBin dEq (mBin dIx (mVar 0) (mC (.int 0))) (mVar 1))))))

/- 0, 1, 2, 3 -/
def m_is_some_row : List Sl → T R := fnM 4 (sRet (mAndV (mIsi "tuple" (mVar 0)) (mB bAll (mCons (mLc (iSeq (mVar 0)) (gSet 3) tYesM (mCall m_is_from (mCons (mVar 3) (mCons (mVar 1) (mCons (mVar 2) mNil)))) [3]) mNil))))

/- 0, 1 -/
def m_first_of : List Sl → T R := fnM 2 (sSeq (sFor (iSeq (mVar 0)) (gSet 1) (sIf (tOf (mBin dIsNot (mVar 1) (mC .none))) (sRet (mVar 1)) sNext))
    (sRet (mC .none)))

/- 0, 1 -/
def m_fault_at : List Sl → T R := fnM 2 (sRet (mIf (tOf (mBin dIs (mVar 1) (mC .none))) (mC .none) (mTup (mCons (mVar 0) (mCons (mVar 1) mNil)))))

/- 0, 1, 2, 3, 4 -/
def m_is_row : List Sl → T R := fnM 5 (sRet (mAndV (mIsi "tuple" (mVar 0)) (mAndV (mBin dEq (mB bLen (mCons (mVar 0) mNil)) (mVar 1)) (mB bAll (mCons (mLc (iSeq (mVar 0)) (gSet 4) tYesM (mCall m_is_from (mCons (mVar 4) (mCons (mVar 2) (mCons (mVar 3) mNil)))) [4]) mNil)))))

/- 0, 1 -/
def m_law_first : List Sl → T R := fnM 2 (sSeq (sFor (iSeq (mVar 0)) (gSet 1) (sIf (tOf (mBin dIsNot (mBin dIx (mVar 1) (mC (.int 1))) (mC .none))) (sRet (mVar 1)) sNext))
    (sRet (mC .none)))

/- 0 -/
def m_law_least : List Sl → T R := fnM 1 (sRet (mIf (tOf (mBin dNe (mVar 0) (mLst mNil))) (mB bMinL (mCons (mVar 0) mNil)) (mC .none)))

end Sc
open Sc
theorem of_all {α β : Type} {f g : α → β} {l : List α} (h : l.map f = l.map g) {x : α} (hx : x ∈ l) : f x = g x := List.map_inj_left.mp h x hx
def dOf : T R → DL.D
  | .ret (.v d) => d
  | _ => .none
theorem so_v {d : DL.D} : slotsOf (.v d) = [] := rfl
theorem so_o {x : O} : slotsOf (.o x) = [] := rfl
theorem so_s {i : Nat} : slotsOf (.s i) = [i] := rfl
theorem dAdd_listE {xs ys : List DL.D} : dAdd (.list xs) (.list ys) = if xs.length + ys.length ≤ 100000 then .ret (.o (.lst (xs ++ ys))) else .stop := rfl
theorem RP_look {P : DL.D → Prop} {r : R} (h : RP P r) : ∃ y, P y ∧ (∀ σ, look σ r = .ret y) ∧ slotsOf r = [] := by
  cases r with
  | v d => exact ⟨d, h, fun _ => rfl, rfl⟩
  | s i => exact h.elim
  | o x =>
    obtain ⟨d, e, p⟩ := h
    refine ⟨d, p, fun σ => ?_, rfl⟩
    show O.d x = _
    unfold O.d
    rw [e]
theorem for_wpI {g : MG} {a : MS} {I : Nat → DL.Env → Prop} (N : Nat) : ∀ (ds : List DL.D) (n : Nat) (σ : DL.Env), n + ds.length ≤ N → I n σ → (∀ d ∈ ds, ∀ n σ, n < N → I n σ → ∃ σ1, g d σ = .ret σ1 ∧ (a σ1).wp fun p => p.1 = .nx ∧ I (n + 1) p.2) → (sForGo g a ds σ).wp fun p => p.1 = .nx ∧ I (n + ds.length) p.2 := by
  intro ds
  induction ds with
  | nil => intro n σ _ h _; exact ⟨rfl, h⟩
  | cons d ds ih =>
    intro n σ hN hI h
    rw [List.length_cons] at hN
    obtain ⟨σ1, h1, h2⟩ := h d (List.mem_cons_self ..) n σ (by omega) hI
    unfold sForGo
    rw [h1, bind_r, T.wp_bind]
    refine T.wp_mono h2 fun p ⟨e, hI'⟩ => ?_
    rw [e]
    have := ih (n + 1) p.2 (by omega) hI' fun x hx => h x (List.mem_cons_of_mem _ hx)
    rw [List.length_cons, show n + (ds.length + 1) = n + 1 + ds.length by omega]
    exact this
theorem dNe_str (i j : Str) : dNe (.str i) (.str j) = .ret (.v (.bool (!decide (i = j)))) := rfl
theorem bRepr_fine {v : DL.D} (h : Fine v) : bRepr [v] = .ret (.v (.str v.shown)) := by
  show (if reprOk v = true then _ else _) = _
  rw [if_pos h.1]
theorem rng_len (n : Nat) : (rngD 0 n).length = n := by unfold rngD; rw [List.length_map, List.length_range]
theorem odd_len : oddL.length = 22 := rfl
/-! ### the plain checks -/
def inR (d : DL.D) (lo hi : Int) : Bool := match d with | .int i => decide (lo ≤ i) && decide (i ≤ hi) | _ => false
theorem whole_is' (d : DL.D) : m_is_whole [.v d] = .ret (.v (.bool (isW d))) := whole_is d
theorem from_is (d : DL.D) (lo hi : Int) : m_is_from [.v d, .v (.int lo), .v (.int hi)] = .ret (.v (.bool (inR d lo hi))) := by
  cases d with
  | int i =>
    simp -implicitDefEqProofs only [m_is_from, e_mC, e_mVar, e_mBin, e_kB1, e_kB2, e_kB3, e_kB4, e_kP, e_mUn, e_kU1, e_kU2, e_mNil, e_mCons, e_kC1, e_kC2, e_mB, e_kA1, e_kA2, e_mTup, e_mLst, e_kT1, e_kL1, e_kJ, e_kJb, e_mIf, e_kI1, e_mAndV, e_kV1, e_kV2, e_mOrV, e_kO1, e_kO2, e_mNotV, e_kN1, e_tOf, e_kQ1, e_tAndM, e_tOrM, e_kAn, e_kOr, e_tNotM, e_tYes, e_toB, e_looks0, e_looks1, e_lookv, e_looko, e_looks, e_Od, e_argv, e_argo, e_args, e_argsOf0, e_argsOf1, e_one, e_mCall, e_kF1, e_kF2, e_kF3, e_at0, e_at1, e_at2, e_at3, e_at4, e_at5, e_at6, e_at7, e_mIsi, e_mSl, e_kS1, e_kS2, e_kS3, e_oNone, e_oSome, e_sNext, e_sSeq, e_kSeq0, e_kSeq1, e_sIf, e_kIf, e_sRet, e_kRet, e_retv, e_reto, e_rets, e_sSet, e_kSt, e_wrO, e_wru, e_wrv, e_wrl, e_storv, e_dic0, e_dic1, e_lookd0, e_storo, e_stors, e_sFor, e_kFor, e_for0, e_for1, e_kBd, e_kGo0, e_kGo1, e_iSeq, e_iRng, e_gSet, e_mLc, e_kLc1, e_kLc2, e_wipe0, e_wipe1, e_frz0, e_frz1, e_frz, e_fnM, e_kFn0, e_kFn1, e_chain, e_put, e_own, bind_ite, wp_ite, bind_draw, bind_r, wp_ret, wp_draw, e_chk, bind_s, pools, O.toD, List.append_nil, List.nil_append, List.cons_append, List.length_cons, List.length_nil, List.replicate, List.getElem?_cons_zero, List.getElem?_cons_succ, List.set, slotsAll, slotsOf, List.flatMap_cons, List.flatMap_nil, Bool.false_eq_true, if_true, if_false, Bool.not_true, Bool.not_false, Nat.zero_add, Nat.le_refl, Nat.zero_le, isi_none, isi_bool, isi_int, isi_str, isi_list, isi_tuple, isi_dict, dIs, dIsNot, isNone, decide_eq_true_eq, Bool.not_eq_true, Nat.reduceLeDiff, Nat.reduceAdd, Nat.reduceSub, itemsOf, whole_is', isW, dLe_int, inR]
    by_cases h : lo ≤ i
    · simp -implicitDefEqProofs only [h, e_mC, e_mVar, e_mBin, e_kB1, e_kB2, e_kB3, e_kB4, e_kP, e_mUn, e_kU1, e_kU2, e_mNil, e_mCons, e_kC1, e_kC2, e_mB, e_kA1, e_kA2, e_mTup, e_mLst, e_kT1, e_kL1, e_kJ, e_kJb, e_mIf, e_kI1, e_mAndV, e_kV1, e_kV2, e_mOrV, e_kO1, e_kO2, e_mNotV, e_kN1, e_tOf, e_kQ1, e_tAndM, e_tOrM, e_kAn, e_kOr, e_tNotM, e_tYes, e_toB, e_looks0, e_looks1, e_lookv, e_looko, e_looks, e_Od, e_argv, e_argo, e_args, e_argsOf0, e_argsOf1, e_one, e_mCall, e_kF1, e_kF2, e_kF3, e_at0, e_at1, e_at2, e_at3, e_at4, e_at5, e_at6, e_at7, e_mIsi, e_mSl, e_kS1, e_kS2, e_kS3, e_oNone, e_oSome, e_sNext, e_sSeq, e_kSeq0, e_kSeq1, e_sIf, e_kIf, e_sRet, e_kRet, e_retv, e_reto, e_rets, e_sSet, e_kSt, e_wrO, e_wru, e_wrv, e_wrl, e_storv, e_dic0, e_dic1, e_lookd0, e_storo, e_stors, e_sFor, e_kFor, e_for0, e_for1, e_kBd, e_kGo0, e_kGo1, e_iSeq, e_iRng, e_gSet, e_mLc, e_kLc1, e_kLc2, e_wipe0, e_wipe1, e_frz0, e_frz1, e_frz, e_fnM, e_kFn0, e_kFn1, e_chain, e_put, e_own, bind_ite, wp_ite, bind_draw, bind_r, wp_ret, wp_draw, e_chk, bind_s, pools, O.toD, List.append_nil, List.nil_append, List.cons_append, List.length_cons, List.length_nil, List.replicate, List.getElem?_cons_zero, List.getElem?_cons_succ, List.set, slotsAll, slotsOf, List.flatMap_cons, List.flatMap_nil, Bool.false_eq_true, if_true, if_false, Bool.not_true, Bool.not_false, Nat.zero_add, Nat.le_refl, Nat.zero_le, isi_none, isi_bool, isi_int, isi_str, isi_list, isi_tuple, isi_dict, dIs, dIsNot, isNone, decide_eq_true_eq, Bool.not_eq_true, Nat.reduceLeDiff, Nat.reduceAdd, Nat.reduceSub, itemsOf, decide_true, Bool.true_and]
    · simp -implicitDefEqProofs only [h, e_mC, e_mVar, e_mBin, e_kB1, e_kB2, e_kB3, e_kB4, e_kP, e_mUn, e_kU1, e_kU2, e_mNil, e_mCons, e_kC1, e_kC2, e_mB, e_kA1, e_kA2, e_mTup, e_mLst, e_kT1, e_kL1, e_kJ, e_kJb, e_mIf, e_kI1, e_mAndV, e_kV1, e_kV2, e_mOrV, e_kO1, e_kO2, e_mNotV, e_kN1, e_tOf, e_kQ1, e_tAndM, e_tOrM, e_kAn, e_kOr, e_tNotM, e_tYes, e_toB, e_looks0, e_looks1, e_lookv, e_looko, e_looks, e_Od, e_argv, e_argo, e_args, e_argsOf0, e_argsOf1, e_one, e_mCall, e_kF1, e_kF2, e_kF3, e_at0, e_at1, e_at2, e_at3, e_at4, e_at5, e_at6, e_at7, e_mIsi, e_mSl, e_kS1, e_kS2, e_kS3, e_oNone, e_oSome, e_sNext, e_sSeq, e_kSeq0, e_kSeq1, e_sIf, e_kIf, e_sRet, e_kRet, e_retv, e_reto, e_rets, e_sSet, e_kSt, e_wrO, e_wru, e_wrv, e_wrl, e_storv, e_dic0, e_dic1, e_lookd0, e_storo, e_stors, e_sFor, e_kFor, e_for0, e_for1, e_kBd, e_kGo0, e_kGo1, e_iSeq, e_iRng, e_gSet, e_mLc, e_kLc1, e_kLc2, e_wipe0, e_wipe1, e_frz0, e_frz1, e_frz, e_fnM, e_kFn0, e_kFn1, e_chain, e_put, e_own, bind_ite, wp_ite, bind_draw, bind_r, wp_ret, wp_draw, e_chk, bind_s, pools, O.toD, List.append_nil, List.nil_append, List.cons_append, List.length_cons, List.length_nil, List.replicate, List.getElem?_cons_zero, List.getElem?_cons_succ, List.set, slotsAll, slotsOf, List.flatMap_cons, List.flatMap_nil, Bool.false_eq_true, if_true, if_false, Bool.not_true, Bool.not_false, Nat.zero_add, Nat.le_refl, Nat.zero_le, isi_none, isi_bool, isi_int, isi_str, isi_list, isi_tuple, isi_dict, dIs, dIsNot, isNone, decide_eq_true_eq, Bool.not_eq_true, Nat.reduceLeDiff, Nat.reduceAdd, Nat.reduceSub, itemsOf, decide_false, Bool.false_and]
  | _ => simp -implicitDefEqProofs only [m_is_from, e_mC, e_mVar, e_mBin, e_kB1, e_kB2, e_kB3, e_kB4, e_kP, e_mUn, e_kU1, e_kU2, e_mNil, e_mCons, e_kC1, e_kC2, e_mB, e_kA1, e_kA2, e_mTup, e_mLst, e_kT1, e_kL1, e_kJ, e_kJb, e_mIf, e_kI1, e_mAndV, e_kV1, e_kV2, e_mOrV, e_kO1, e_kO2, e_mNotV, e_kN1, e_tOf, e_kQ1, e_tAndM, e_tOrM, e_kAn, e_kOr, e_tNotM, e_tYes, e_toB, e_looks0, e_looks1, e_lookv, e_looko, e_looks, e_Od, e_argv, e_argo, e_args, e_argsOf0, e_argsOf1, e_one, e_mCall, e_kF1, e_kF2, e_kF3, e_at0, e_at1, e_at2, e_at3, e_at4, e_at5, e_at6, e_at7, e_mIsi, e_mSl, e_kS1, e_kS2, e_kS3, e_oNone, e_oSome, e_sNext, e_sSeq, e_kSeq0, e_kSeq1, e_sIf, e_kIf, e_sRet, e_kRet, e_retv, e_reto, e_rets, e_sSet, e_kSt, e_wrO, e_wru, e_wrv, e_wrl, e_storv, e_dic0, e_dic1, e_lookd0, e_storo, e_stors, e_sFor, e_kFor, e_for0, e_for1, e_kBd, e_kGo0, e_kGo1, e_iSeq, e_iRng, e_gSet, e_mLc, e_kLc1, e_kLc2, e_wipe0, e_wipe1, e_frz0, e_frz1, e_frz, e_fnM, e_kFn0, e_kFn1, e_chain, e_put, e_own, bind_ite, wp_ite, bind_draw, bind_r, wp_ret, wp_draw, e_chk, bind_s, pools, O.toD, List.append_nil, List.nil_append, List.cons_append, List.length_cons, List.length_nil, List.replicate, List.getElem?_cons_zero, List.getElem?_cons_succ, List.set, slotsAll, slotsOf, List.flatMap_cons, List.flatMap_nil, Bool.false_eq_true, if_true, if_false, Bool.not_true, Bool.not_false, Nat.zero_add, Nat.le_refl, Nat.zero_le, isi_none, isi_bool, isi_int, isi_str, isi_list, isi_tuple, isi_dict, dIs, dIsNot, isNone, decide_eq_true_eq, Bool.not_eq_true, Nat.reduceLeDiff, Nat.reduceAdd, Nat.reduceSub, itemsOf, whole_is', isW, inR]
theorem number_is (d : DL.D) (lo hi : Int) : m_law_is_number [.v d, .v (.int lo), .v (.int hi)] = .ret (.v (.bool (inR d lo hi))) := by
  cases d with
  | int i =>
    simp -implicitDefEqProofs only [m_law_is_number, e_mC, e_mVar, e_mBin, e_kB1, e_kB2, e_kB3, e_kB4, e_kP, e_mUn, e_kU1, e_kU2, e_mNil, e_mCons, e_kC1, e_kC2, e_mB, e_kA1, e_kA2, e_mTup, e_mLst, e_kT1, e_kL1, e_kJ, e_kJb, e_mIf, e_kI1, e_mAndV, e_kV1, e_kV2, e_mOrV, e_kO1, e_kO2, e_mNotV, e_kN1, e_tOf, e_kQ1, e_tAndM, e_tOrM, e_kAn, e_kOr, e_tNotM, e_tYes, e_toB, e_looks0, e_looks1, e_lookv, e_looko, e_looks, e_Od, e_argv, e_argo, e_args, e_argsOf0, e_argsOf1, e_one, e_mCall, e_kF1, e_kF2, e_kF3, e_at0, e_at1, e_at2, e_at3, e_at4, e_at5, e_at6, e_at7, e_mIsi, e_mSl, e_kS1, e_kS2, e_kS3, e_oNone, e_oSome, e_sNext, e_sSeq, e_kSeq0, e_kSeq1, e_sIf, e_kIf, e_sRet, e_kRet, e_retv, e_reto, e_rets, e_sSet, e_kSt, e_wrO, e_wru, e_wrv, e_wrl, e_storv, e_dic0, e_dic1, e_lookd0, e_storo, e_stors, e_sFor, e_kFor, e_for0, e_for1, e_kBd, e_kGo0, e_kGo1, e_iSeq, e_iRng, e_gSet, e_mLc, e_kLc1, e_kLc2, e_wipe0, e_wipe1, e_frz0, e_frz1, e_frz, e_fnM, e_kFn0, e_kFn1, e_chain, e_put, e_own, bind_ite, wp_ite, bind_draw, bind_r, wp_ret, wp_draw, e_chk, bind_s, pools, O.toD, List.append_nil, List.nil_append, List.cons_append, List.length_cons, List.length_nil, List.replicate, List.getElem?_cons_zero, List.getElem?_cons_succ, List.set, slotsAll, slotsOf, List.flatMap_cons, List.flatMap_nil, Bool.false_eq_true, if_true, if_false, Bool.not_true, Bool.not_false, Nat.zero_add, Nat.le_refl, Nat.zero_le, isi_none, isi_bool, isi_int, isi_str, isi_list, isi_tuple, isi_dict, dIs, dIsNot, isNone, decide_eq_true_eq, Bool.not_eq_true, Nat.reduceLeDiff, Nat.reduceAdd, Nat.reduceSub, itemsOf, whole_is, isW, dLe_int, inR]
    by_cases h : lo ≤ i
    · simp -implicitDefEqProofs only [h, e_mC, e_mVar, e_mBin, e_kB1, e_kB2, e_kB3, e_kB4, e_kP, e_mUn, e_kU1, e_kU2, e_mNil, e_mCons, e_kC1, e_kC2, e_mB, e_kA1, e_kA2, e_mTup, e_mLst, e_kT1, e_kL1, e_kJ, e_kJb, e_mIf, e_kI1, e_mAndV, e_kV1, e_kV2, e_mOrV, e_kO1, e_kO2, e_mNotV, e_kN1, e_tOf, e_kQ1, e_tAndM, e_tOrM, e_kAn, e_kOr, e_tNotM, e_tYes, e_toB, e_looks0, e_looks1, e_lookv, e_looko, e_looks, e_Od, e_argv, e_argo, e_args, e_argsOf0, e_argsOf1, e_one, e_mCall, e_kF1, e_kF2, e_kF3, e_at0, e_at1, e_at2, e_at3, e_at4, e_at5, e_at6, e_at7, e_mIsi, e_mSl, e_kS1, e_kS2, e_kS3, e_oNone, e_oSome, e_sNext, e_sSeq, e_kSeq0, e_kSeq1, e_sIf, e_kIf, e_sRet, e_kRet, e_retv, e_reto, e_rets, e_sSet, e_kSt, e_wrO, e_wru, e_wrv, e_wrl, e_storv, e_dic0, e_dic1, e_lookd0, e_storo, e_stors, e_sFor, e_kFor, e_for0, e_for1, e_kBd, e_kGo0, e_kGo1, e_iSeq, e_iRng, e_gSet, e_mLc, e_kLc1, e_kLc2, e_wipe0, e_wipe1, e_frz0, e_frz1, e_frz, e_fnM, e_kFn0, e_kFn1, e_chain, e_put, e_own, bind_ite, wp_ite, bind_draw, bind_r, wp_ret, wp_draw, e_chk, bind_s, pools, O.toD, List.append_nil, List.nil_append, List.cons_append, List.length_cons, List.length_nil, List.replicate, List.getElem?_cons_zero, List.getElem?_cons_succ, List.set, slotsAll, slotsOf, List.flatMap_cons, List.flatMap_nil, Bool.false_eq_true, if_true, if_false, Bool.not_true, Bool.not_false, Nat.zero_add, Nat.le_refl, Nat.zero_le, isi_none, isi_bool, isi_int, isi_str, isi_list, isi_tuple, isi_dict, dIs, dIsNot, isNone, decide_eq_true_eq, Bool.not_eq_true, Nat.reduceLeDiff, Nat.reduceAdd, Nat.reduceSub, itemsOf, decide_true, Bool.true_and]
    · simp -implicitDefEqProofs only [h, e_mC, e_mVar, e_mBin, e_kB1, e_kB2, e_kB3, e_kB4, e_kP, e_mUn, e_kU1, e_kU2, e_mNil, e_mCons, e_kC1, e_kC2, e_mB, e_kA1, e_kA2, e_mTup, e_mLst, e_kT1, e_kL1, e_kJ, e_kJb, e_mIf, e_kI1, e_mAndV, e_kV1, e_kV2, e_mOrV, e_kO1, e_kO2, e_mNotV, e_kN1, e_tOf, e_kQ1, e_tAndM, e_tOrM, e_kAn, e_kOr, e_tNotM, e_tYes, e_toB, e_looks0, e_looks1, e_lookv, e_looko, e_looks, e_Od, e_argv, e_argo, e_args, e_argsOf0, e_argsOf1, e_one, e_mCall, e_kF1, e_kF2, e_kF3, e_at0, e_at1, e_at2, e_at3, e_at4, e_at5, e_at6, e_at7, e_mIsi, e_mSl, e_kS1, e_kS2, e_kS3, e_oNone, e_oSome, e_sNext, e_sSeq, e_kSeq0, e_kSeq1, e_sIf, e_kIf, e_sRet, e_kRet, e_retv, e_reto, e_rets, e_sSet, e_kSt, e_wrO, e_wru, e_wrv, e_wrl, e_storv, e_dic0, e_dic1, e_lookd0, e_storo, e_stors, e_sFor, e_kFor, e_for0, e_for1, e_kBd, e_kGo0, e_kGo1, e_iSeq, e_iRng, e_gSet, e_mLc, e_kLc1, e_kLc2, e_wipe0, e_wipe1, e_frz0, e_frz1, e_frz, e_fnM, e_kFn0, e_kFn1, e_chain, e_put, e_own, bind_ite, wp_ite, bind_draw, bind_r, wp_ret, wp_draw, e_chk, bind_s, pools, O.toD, List.append_nil, List.nil_append, List.cons_append, List.length_cons, List.length_nil, List.replicate, List.getElem?_cons_zero, List.getElem?_cons_succ, List.set, slotsAll, slotsOf, List.flatMap_cons, List.flatMap_nil, Bool.false_eq_true, if_true, if_false, Bool.not_true, Bool.not_false, Nat.zero_add, Nat.le_refl, Nat.zero_le, isi_none, isi_bool, isi_int, isi_str, isi_list, isi_tuple, isi_dict, dIs, dIsNot, isNone, decide_eq_true_eq, Bool.not_eq_true, Nat.reduceLeDiff, Nat.reduceAdd, Nat.reduceSub, itemsOf, decide_false, Bool.false_and]
  | _ => simp -implicitDefEqProofs only [m_law_is_number, e_mC, e_mVar, e_mBin, e_kB1, e_kB2, e_kB3, e_kB4, e_kP, e_mUn, e_kU1, e_kU2, e_mNil, e_mCons, e_kC1, e_kC2, e_mB, e_kA1, e_kA2, e_mTup, e_mLst, e_kT1, e_kL1, e_kJ, e_kJb, e_mIf, e_kI1, e_mAndV, e_kV1, e_kV2, e_mOrV, e_kO1, e_kO2, e_mNotV, e_kN1, e_tOf, e_kQ1, e_tAndM, e_tOrM, e_kAn, e_kOr, e_tNotM, e_tYes, e_toB, e_looks0, e_looks1, e_lookv, e_looko, e_looks, e_Od, e_argv, e_argo, e_args, e_argsOf0, e_argsOf1, e_one, e_mCall, e_kF1, e_kF2, e_kF3, e_at0, e_at1, e_at2, e_at3, e_at4, e_at5, e_at6, e_at7, e_mIsi, e_mSl, e_kS1, e_kS2, e_kS3, e_oNone, e_oSome, e_sNext, e_sSeq, e_kSeq0, e_kSeq1, e_sIf, e_kIf, e_sRet, e_kRet, e_retv, e_reto, e_rets, e_sSet, e_kSt, e_wrO, e_wru, e_wrv, e_wrl, e_storv, e_dic0, e_dic1, e_lookd0, e_storo, e_stors, e_sFor, e_kFor, e_for0, e_for1, e_kBd, e_kGo0, e_kGo1, e_iSeq, e_iRng, e_gSet, e_mLc, e_kLc1, e_kLc2, e_wipe0, e_wipe1, e_frz0, e_frz1, e_frz, e_fnM, e_kFn0, e_kFn1, e_chain, e_put, e_own, bind_ite, wp_ite, bind_draw, bind_r, wp_ret, wp_draw, e_chk, bind_s, pools, O.toD, List.append_nil, List.nil_append, List.cons_append, List.length_cons, List.length_nil, List.replicate, List.getElem?_cons_zero, List.getElem?_cons_succ, List.set, slotsAll, slotsOf, List.flatMap_cons, List.flatMap_nil, Bool.false_eq_true, if_true, if_false, Bool.not_true, Bool.not_false, Nat.zero_add, Nat.le_refl, Nat.zero_le, isi_none, isi_bool, isi_int, isi_str, isi_list, isi_tuple, isi_dict, dIs, dIsNot, isNone, decide_eq_true_eq, Bool.not_eq_true, Nat.reduceLeDiff, Nat.reduceAdd, Nat.reduceSub, itemsOf, whole_is, isW, inR]
def named (v : DL.D) (w : Str) (n : Nat) : Bool := match v with
  | .tuple (.str s :: r) => decide (r.length + 1 = n) && decide (s = w)
  | _ => false
theorem word_is (v : DL.D) (w : Str) (n : Nat) (hn : 0 < n) : m_law_word [.v v, .v (.str w), .v (.int n)] = .ret (.v (.bool (named v w n))) := by
  cases v with
  | tuple xs =>
    cases xs with
    | nil =>
      have h : ¬ (((0 : Nat) : Int) = (n : Int)) := by omega
      simp -implicitDefEqProofs only [m_law_word, e_mC, e_mVar, e_mBin, e_kB1, e_kB2, e_kB3, e_kB4, e_kP, e_mUn, e_kU1, e_kU2, e_mNil, e_mCons, e_kC1, e_kC2, e_mB, e_kA1, e_kA2, e_mTup, e_mLst, e_kT1, e_kL1, e_kJ, e_kJb, e_mIf, e_kI1, e_mAndV, e_kV1, e_kV2, e_mOrV, e_kO1, e_kO2, e_mNotV, e_kN1, e_tOf, e_kQ1, e_tAndM, e_tOrM, e_kAn, e_kOr, e_tNotM, e_tYes, e_toB, e_looks0, e_looks1, e_lookv, e_looko, e_looks, e_Od, e_argv, e_argo, e_args, e_argsOf0, e_argsOf1, e_one, e_mCall, e_kF1, e_kF2, e_kF3, e_at0, e_at1, e_at2, e_at3, e_at4, e_at5, e_at6, e_at7, e_mIsi, e_mSl, e_kS1, e_kS2, e_kS3, e_oNone, e_oSome, e_sNext, e_sSeq, e_kSeq0, e_kSeq1, e_sIf, e_kIf, e_sRet, e_kRet, e_retv, e_reto, e_rets, e_sSet, e_kSt, e_wrO, e_wru, e_wrv, e_wrl, e_storv, e_dic0, e_dic1, e_lookd0, e_storo, e_stors, e_sFor, e_kFor, e_for0, e_for1, e_kBd, e_kGo0, e_kGo1, e_iSeq, e_iRng, e_gSet, e_mLc, e_kLc1, e_kLc2, e_wipe0, e_wipe1, e_frz0, e_frz1, e_frz, e_fnM, e_kFn0, e_kFn1, e_chain, e_put, e_own, bind_ite, wp_ite, bind_draw, bind_r, wp_ret, wp_draw, e_chk, bind_s, pools, O.toD, List.append_nil, List.nil_append, List.cons_append, List.length_cons, List.length_nil, List.replicate, List.getElem?_cons_zero, List.getElem?_cons_succ, List.set, slotsAll, slotsOf, List.flatMap_cons, List.flatMap_nil, Bool.false_eq_true, if_true, if_false, Bool.not_true, Bool.not_false, Nat.zero_add, Nat.le_refl, Nat.zero_le, isi_none, isi_bool, isi_int, isi_str, isi_list, isi_tuple, isi_dict, dIs, dIsNot, isNone, decide_eq_true_eq, Bool.not_eq_true, Nat.reduceLeDiff, Nat.reduceAdd, Nat.reduceSub, itemsOf, bLen_tup, dEq_int, h, decide_false, named]
    | cons x r =>
      have e : dIx (.tuple (x :: r)) (.int 0) = .ret (.v x) := dIx_tup (i := 0) rfl
      by_cases h : r.length + 1 = n
      · have h' : (((r.length + 1 : Nat) : Int) = (n : Int)) := by omega
        cases x with
        | str s => simp -implicitDefEqProofs only [m_law_word, e_mC, e_mVar, e_mBin, e_kB1, e_kB2, e_kB3, e_kB4, e_kP, e_mUn, e_kU1, e_kU2, e_mNil, e_mCons, e_kC1, e_kC2, e_mB, e_kA1, e_kA2, e_mTup, e_mLst, e_kT1, e_kL1, e_kJ, e_kJb, e_mIf, e_kI1, e_mAndV, e_kV1, e_kV2, e_mOrV, e_kO1, e_kO2, e_mNotV, e_kN1, e_tOf, e_kQ1, e_tAndM, e_tOrM, e_kAn, e_kOr, e_tNotM, e_tYes, e_toB, e_looks0, e_looks1, e_lookv, e_looko, e_looks, e_Od, e_argv, e_argo, e_args, e_argsOf0, e_argsOf1, e_one, e_mCall, e_kF1, e_kF2, e_kF3, e_at0, e_at1, e_at2, e_at3, e_at4, e_at5, e_at6, e_at7, e_mIsi, e_mSl, e_kS1, e_kS2, e_kS3, e_oNone, e_oSome, e_sNext, e_sSeq, e_kSeq0, e_kSeq1, e_sIf, e_kIf, e_sRet, e_kRet, e_retv, e_reto, e_rets, e_sSet, e_kSt, e_wrO, e_wru, e_wrv, e_wrl, e_storv, e_dic0, e_dic1, e_lookd0, e_storo, e_stors, e_sFor, e_kFor, e_for0, e_for1, e_kBd, e_kGo0, e_kGo1, e_iSeq, e_iRng, e_gSet, e_mLc, e_kLc1, e_kLc2, e_wipe0, e_wipe1, e_frz0, e_frz1, e_frz, e_fnM, e_kFn0, e_kFn1, e_chain, e_put, e_own, bind_ite, wp_ite, bind_draw, bind_r, wp_ret, wp_draw, e_chk, bind_s, pools, O.toD, List.append_nil, List.nil_append, List.cons_append, List.length_cons, List.length_nil, List.replicate, List.getElem?_cons_zero, List.getElem?_cons_succ, List.set, slotsAll, slotsOf, List.flatMap_cons, List.flatMap_nil, Bool.false_eq_true, if_true, if_false, Bool.not_true, Bool.not_false, Nat.zero_add, Nat.le_refl, Nat.zero_le, isi_none, isi_bool, isi_int, isi_str, isi_list, isi_tuple, isi_dict, dIs, dIsNot, isNone, decide_eq_true_eq, Bool.not_eq_true, Nat.reduceLeDiff, Nat.reduceAdd, Nat.reduceSub, itemsOf, bLen_tup, dEq_int, dEq_str, h', decide_true, named, e, h, Bool.true_and]
        | _ => simp -implicitDefEqProofs only [m_law_word, e_mC, e_mVar, e_mBin, e_kB1, e_kB2, e_kB3, e_kB4, e_kP, e_mUn, e_kU1, e_kU2, e_mNil, e_mCons, e_kC1, e_kC2, e_mB, e_kA1, e_kA2, e_mTup, e_mLst, e_kT1, e_kL1, e_kJ, e_kJb, e_mIf, e_kI1, e_mAndV, e_kV1, e_kV2, e_mOrV, e_kO1, e_kO2, e_mNotV, e_kN1, e_tOf, e_kQ1, e_tAndM, e_tOrM, e_kAn, e_kOr, e_tNotM, e_tYes, e_toB, e_looks0, e_looks1, e_lookv, e_looko, e_looks, e_Od, e_argv, e_argo, e_args, e_argsOf0, e_argsOf1, e_one, e_mCall, e_kF1, e_kF2, e_kF3, e_at0, e_at1, e_at2, e_at3, e_at4, e_at5, e_at6, e_at7, e_mIsi, e_mSl, e_kS1, e_kS2, e_kS3, e_oNone, e_oSome, e_sNext, e_sSeq, e_kSeq0, e_kSeq1, e_sIf, e_kIf, e_sRet, e_kRet, e_retv, e_reto, e_rets, e_sSet, e_kSt, e_wrO, e_wru, e_wrv, e_wrl, e_storv, e_dic0, e_dic1, e_lookd0, e_storo, e_stors, e_sFor, e_kFor, e_for0, e_for1, e_kBd, e_kGo0, e_kGo1, e_iSeq, e_iRng, e_gSet, e_mLc, e_kLc1, e_kLc2, e_wipe0, e_wipe1, e_frz0, e_frz1, e_frz, e_fnM, e_kFn0, e_kFn1, e_chain, e_put, e_own, bind_ite, wp_ite, bind_draw, bind_r, wp_ret, wp_draw, e_chk, bind_s, pools, O.toD, List.append_nil, List.nil_append, List.cons_append, List.length_cons, List.length_nil, List.replicate, List.getElem?_cons_zero, List.getElem?_cons_succ, List.set, slotsAll, slotsOf, List.flatMap_cons, List.flatMap_nil, Bool.false_eq_true, if_true, if_false, Bool.not_true, Bool.not_false, Nat.zero_add, Nat.le_refl, Nat.zero_le, isi_none, isi_bool, isi_int, isi_str, isi_list, isi_tuple, isi_dict, dIs, dIsNot, isNone, decide_eq_true_eq, Bool.not_eq_true, Nat.reduceLeDiff, Nat.reduceAdd, Nat.reduceSub, itemsOf, bLen_tup, dEq_int, dEq_str, h', decide_true, named, e, h, Bool.true_and]
      · have h' : ¬ (((r.length + 1 : Nat) : Int) = (n : Int)) := by omega
        cases x <;> simp -implicitDefEqProofs only [m_law_word, e_mC, e_mVar, e_mBin, e_kB1, e_kB2, e_kB3, e_kB4, e_kP, e_mUn, e_kU1, e_kU2, e_mNil, e_mCons, e_kC1, e_kC2, e_mB, e_kA1, e_kA2, e_mTup, e_mLst, e_kT1, e_kL1, e_kJ, e_kJb, e_mIf, e_kI1, e_mAndV, e_kV1, e_kV2, e_mOrV, e_kO1, e_kO2, e_mNotV, e_kN1, e_tOf, e_kQ1, e_tAndM, e_tOrM, e_kAn, e_kOr, e_tNotM, e_tYes, e_toB, e_looks0, e_looks1, e_lookv, e_looko, e_looks, e_Od, e_argv, e_argo, e_args, e_argsOf0, e_argsOf1, e_one, e_mCall, e_kF1, e_kF2, e_kF3, e_at0, e_at1, e_at2, e_at3, e_at4, e_at5, e_at6, e_at7, e_mIsi, e_mSl, e_kS1, e_kS2, e_kS3, e_oNone, e_oSome, e_sNext, e_sSeq, e_kSeq0, e_kSeq1, e_sIf, e_kIf, e_sRet, e_kRet, e_retv, e_reto, e_rets, e_sSet, e_kSt, e_wrO, e_wru, e_wrv, e_wrl, e_storv, e_dic0, e_dic1, e_lookd0, e_storo, e_stors, e_sFor, e_kFor, e_for0, e_for1, e_kBd, e_kGo0, e_kGo1, e_iSeq, e_iRng, e_gSet, e_mLc, e_kLc1, e_kLc2, e_wipe0, e_wipe1, e_frz0, e_frz1, e_frz, e_fnM, e_kFn0, e_kFn1, e_chain, e_put, e_own, bind_ite, wp_ite, bind_draw, bind_r, wp_ret, wp_draw, e_chk, bind_s, pools, O.toD, List.append_nil, List.nil_append, List.cons_append, List.length_cons, List.length_nil, List.replicate, List.getElem?_cons_zero, List.getElem?_cons_succ, List.set, slotsAll, slotsOf, List.flatMap_cons, List.flatMap_nil, Bool.false_eq_true, if_true, if_false, Bool.not_true, Bool.not_false, Nat.zero_add, Nat.le_refl, Nat.zero_le, isi_none, isi_bool, isi_int, isi_str, isi_list, isi_tuple, isi_dict, dIs, dIsNot, isNone, decide_eq_true_eq, Bool.not_eq_true, Nat.reduceLeDiff, Nat.reduceAdd, Nat.reduceSub, itemsOf, bLen_tup, dEq_int, h', decide_false, named, h, Bool.false_and]
  | _ => simp -implicitDefEqProofs only [m_law_word, e_mC, e_mVar, e_mBin, e_kB1, e_kB2, e_kB3, e_kB4, e_kP, e_mUn, e_kU1, e_kU2, e_mNil, e_mCons, e_kC1, e_kC2, e_mB, e_kA1, e_kA2, e_mTup, e_mLst, e_kT1, e_kL1, e_kJ, e_kJb, e_mIf, e_kI1, e_mAndV, e_kV1, e_kV2, e_mOrV, e_kO1, e_kO2, e_mNotV, e_kN1, e_tOf, e_kQ1, e_tAndM, e_tOrM, e_kAn, e_kOr, e_tNotM, e_tYes, e_toB, e_looks0, e_looks1, e_lookv, e_looko, e_looks, e_Od, e_argv, e_argo, e_args, e_argsOf0, e_argsOf1, e_one, e_mCall, e_kF1, e_kF2, e_kF3, e_at0, e_at1, e_at2, e_at3, e_at4, e_at5, e_at6, e_at7, e_mIsi, e_mSl, e_kS1, e_kS2, e_kS3, e_oNone, e_oSome, e_sNext, e_sSeq, e_kSeq0, e_kSeq1, e_sIf, e_kIf, e_sRet, e_kRet, e_retv, e_reto, e_rets, e_sSet, e_kSt, e_wrO, e_wru, e_wrv, e_wrl, e_storv, e_dic0, e_dic1, e_lookd0, e_storo, e_stors, e_sFor, e_kFor, e_for0, e_for1, e_kBd, e_kGo0, e_kGo1, e_iSeq, e_iRng, e_gSet, e_mLc, e_kLc1, e_kLc2, e_wipe0, e_wipe1, e_frz0, e_frz1, e_frz, e_fnM, e_kFn0, e_kFn1, e_chain, e_put, e_own, bind_ite, wp_ite, bind_draw, bind_r, wp_ret, wp_draw, e_chk, bind_s, pools, O.toD, List.append_nil, List.nil_append, List.cons_append, List.length_cons, List.length_nil, List.replicate, List.getElem?_cons_zero, List.getElem?_cons_succ, List.set, slotsAll, slotsOf, List.flatMap_cons, List.flatMap_nil, Bool.false_eq_true, if_true, if_false, Bool.not_true, Bool.not_false, Nat.zero_add, Nat.le_refl, Nat.zero_le, isi_none, isi_bool, isi_int, isi_str, isi_list, isi_tuple, isi_dict, dIs, dIsNot, isNone, decide_eq_true_eq, Bool.not_eq_true, Nat.reduceLeDiff, Nat.reduceAdd, Nat.reduceSub, itemsOf, named]
theorem named_is (v : DL.D) (w : Str) (n : Nat) (hn : 0 < n) : m_is_named [.v v, .v (.str w), .v (.int n)] = .ret (.v (.bool (named v w n))) := word_is v w n hn
/-! ### whole rows -/
def rowB (v : DL.D) (lo hi : Int) : Bool := match v with | .tuple xs => xs.all fun x => inR x lo hi | _ => false
theorem bools_map (c : DL.D → Bool) : ∀ xs : List DL.D, boolsD (xs.map fun x => .bool (c x)) = some (xs.map c)
  | [] => rfl
  | x :: xs => by rw [List.map_cons, boolsD, bools_map c xs]; rfl
theorem filt_all {α : Type} (l : List α) : l.filter (fun _ => true) = l := by
  induction l with
  | nil => rfl
  | cons x l ih => rw [List.filter_cons_of_pos rfl, ih]
theorem some_row_is (v : DL.D) (lo hi : Int) (hv : ∀ xs, v = .tuple xs → xs.length ≤ 100000) : m_is_some_row [.v v, .v (.int lo), .v (.int hi)] = .ret (.v (.bool (rowB v lo hi))) := by
  cases v with
  | tuple xs =>
    have hl := hv xs rfl
    have lc := lc_pure (g := gSet 3) (mt := tYesM) (m := mCall m_is_from (mCons (mVar 3) (mCons (mVar 1) (mCons (mVar 2) mNil)))) (vs := [3]) (σ := [.v (.tuple xs), .v (.int lo), .v (.int hi), .u]) (c := fun _ => true) (f := fun x => .bool (inR x lo hi)) xs fun d _ =>
      ⟨[.v (.tuple xs), .v (.int lo), .v (.int hi), .v d], rfl, rfl, rfl, fun _ => by simp -implicitDefEqProofs only [e_mC, e_mVar, e_mBin, e_kB1, e_kB2, e_kB3, e_kB4, e_kP, e_mUn, e_kU1, e_kU2, e_mNil, e_mCons, e_kC1, e_kC2, e_mB, e_kA1, e_kA2, e_mTup, e_mLst, e_kT1, e_kL1, e_kJ, e_kJb, e_mIf, e_kI1, e_mAndV, e_kV1, e_kV2, e_mOrV, e_kO1, e_kO2, e_mNotV, e_kN1, e_tOf, e_kQ1, e_tAndM, e_tOrM, e_kAn, e_kOr, e_tNotM, e_tYes, e_toB, e_looks0, e_looks1, e_lookv, e_looko, e_looks, e_Od, e_argv, e_argo, e_args, e_argsOf0, e_argsOf1, e_one, e_mCall, e_kF1, e_kF2, e_kF3, e_at0, e_at1, e_at2, e_at3, e_at4, e_at5, e_at6, e_at7, e_mIsi, e_mSl, e_kS1, e_kS2, e_kS3, e_oNone, e_oSome, e_sNext, e_sSeq, e_kSeq0, e_kSeq1, e_sIf, e_kIf, e_sRet, e_kRet, e_retv, e_reto, e_rets, e_sSet, e_kSt, e_wrO, e_wru, e_wrv, e_wrl, e_storv, e_dic0, e_dic1, e_lookd0, e_storo, e_stors, e_sFor, e_kFor, e_for0, e_for1, e_kBd, e_kGo0, e_kGo1, e_iSeq, e_iRng, e_gSet, e_mLc, e_kLc1, e_kLc2, e_wipe0, e_wipe1, e_frz0, e_frz1, e_frz, e_fnM, e_kFn0, e_kFn1, e_chain, e_put, e_own, bind_ite, wp_ite, bind_draw, bind_r, wp_ret, wp_draw, e_chk, bind_s, pools, O.toD, List.append_nil, List.nil_append, List.cons_append, List.length_cons, List.length_nil, List.replicate, List.getElem?_cons_zero, List.getElem?_cons_succ, List.set, slotsAll, slotsOf, List.flatMap_cons, List.flatMap_nil, Bool.false_eq_true, if_true, if_false, Bool.not_true, Bool.not_false, Nat.zero_add, Nat.le_refl, Nat.zero_le, isi_none, isi_bool, isi_int, isi_str, isi_list, isi_tuple, isi_dict, dIs, dIsNot, isNone, decide_eq_true_eq, Bool.not_eq_true, Nat.reduceLeDiff, Nat.reduceAdd, Nat.reduceSub, itemsOf, from_is]⟩
    rw [filt_all] at lc
    have ba : ∀ l : List Bool, bAll [.list (xs.map fun x => .bool (inR x lo hi))] = .ret (.v (.bool ((xs.map fun x => inR x lo hi).all id))) := fun _ => by
      show ofB ((boolsD _).map _) = _
      rw [bools_map]; rfl
    have al : (xs.map fun x => inR x lo hi).all id = xs.all fun x => inR x lo hi := by rw [List.all_map]; rfl
    simp -implicitDefEqProofs only [m_is_some_row, e_mC, e_mVar, e_mBin, e_kB1, e_kB2, e_kB3, e_kB4, e_kP, e_mUn, e_kU1, e_kU2, e_mNil, e_mCons, e_kC1, e_kC2, e_mB, e_kA1, e_kA2, e_mTup, e_mLst, e_kT1, e_kL1, e_kJ, e_kJb, e_mIf, e_kI1, e_mAndV, e_kV1, e_kV2, e_mOrV, e_kO1, e_kO2, e_mNotV, e_kN1, e_tOf, e_kQ1, e_tAndM, e_tOrM, e_kAn, e_kOr, e_tNotM, e_tYes, e_toB, e_looks0, e_looks1, e_lookv, e_looko, e_looks, e_Od, e_argv, e_argo, e_args, e_argsOf0, e_argsOf1, e_one, e_mCall, e_kF1, e_kF2, e_kF3, e_at0, e_at1, e_at2, e_at3, e_at4, e_at5, e_at6, e_at7, e_mIsi, e_mSl, e_kS1, e_kS2, e_kS3, e_oNone, e_oSome, e_sNext, e_sSeq, e_kSeq0, e_kSeq1, e_sIf, e_kIf, e_sRet, e_kRet, e_retv, e_reto, e_rets, e_sSet, e_kSt, e_wrO, e_wru, e_wrv, e_wrl, e_storv, e_dic0, e_dic1, e_lookd0, e_storo, e_stors, e_sFor, e_kFor, e_for0, e_for1, e_kBd, e_kGo0, e_kGo1, e_iSeq, e_iRng, e_gSet, e_mLc, e_kLc1, e_kLc2, e_wipe0, e_wipe1, e_frz0, e_frz1, e_frz, e_fnM, e_kFn0, e_kFn1, e_chain, e_put, e_own, bind_ite, wp_ite, bind_draw, bind_r, wp_ret, wp_draw, e_chk, bind_s, pools, O.toD, List.append_nil, List.nil_append, List.cons_append, List.length_cons, List.length_nil, List.replicate, List.getElem?_cons_zero, List.getElem?_cons_succ, List.set, slotsAll, slotsOf, List.flatMap_cons, List.flatMap_nil, Bool.false_eq_true, if_true, if_false, Bool.not_true, Bool.not_false, Nat.zero_add, Nat.le_refl, Nat.zero_le, isi_none, isi_bool, isi_int, isi_str, isi_list, isi_tuple, isi_dict, dIs, dIsNot, isNone, decide_eq_true_eq, Bool.not_eq_true, Nat.reduceLeDiff, Nat.reduceAdd, Nat.reduceSub, itemsOf, hl, lc, out, List.filter_nil, ba [], al, rowB]
  | _ => simp -implicitDefEqProofs only [m_is_some_row, e_mC, e_mVar, e_mBin, e_kB1, e_kB2, e_kB3, e_kB4, e_kP, e_mUn, e_kU1, e_kU2, e_mNil, e_mCons, e_kC1, e_kC2, e_mB, e_kA1, e_kA2, e_mTup, e_mLst, e_kT1, e_kL1, e_kJ, e_kJb, e_mIf, e_kI1, e_mAndV, e_kV1, e_kV2, e_mOrV, e_kO1, e_kO2, e_mNotV, e_kN1, e_tOf, e_kQ1, e_tAndM, e_tOrM, e_kAn, e_kOr, e_tNotM, e_tYes, e_toB, e_looks0, e_looks1, e_lookv, e_looko, e_looks, e_Od, e_argv, e_argo, e_args, e_argsOf0, e_argsOf1, e_one, e_mCall, e_kF1, e_kF2, e_kF3, e_at0, e_at1, e_at2, e_at3, e_at4, e_at5, e_at6, e_at7, e_mIsi, e_mSl, e_kS1, e_kS2, e_kS3, e_oNone, e_oSome, e_sNext, e_sSeq, e_kSeq0, e_kSeq1, e_sIf, e_kIf, e_sRet, e_kRet, e_retv, e_reto, e_rets, e_sSet, e_kSt, e_wrO, e_wru, e_wrv, e_wrl, e_storv, e_dic0, e_dic1, e_lookd0, e_storo, e_stors, e_sFor, e_kFor, e_for0, e_for1, e_kBd, e_kGo0, e_kGo1, e_iSeq, e_iRng, e_gSet, e_mLc, e_kLc1, e_kLc2, e_wipe0, e_wipe1, e_frz0, e_frz1, e_frz, e_fnM, e_kFn0, e_kFn1, e_chain, e_put, e_own, bind_ite, wp_ite, bind_draw, bind_r, wp_ret, wp_draw, e_chk, bind_s, pools, O.toD, List.append_nil, List.nil_append, List.cons_append, List.length_cons, List.length_nil, List.replicate, List.getElem?_cons_zero, List.getElem?_cons_succ, List.set, slotsAll, slotsOf, List.flatMap_cons, List.flatMap_nil, Bool.false_eq_true, if_true, if_false, Bool.not_true, Bool.not_false, Nat.zero_add, Nat.le_refl, Nat.zero_le, isi_none, isi_bool, isi_int, isi_str, isi_list, isi_tuple, isi_dict, dIs, dIsNot, isNone, decide_eq_true_eq, Bool.not_eq_true, Nat.reduceLeDiff, Nat.reduceAdd, Nat.reduceSub, itemsOf, rowB]
theorem none_all (c : DL.D → Bool) : ∀ xs : List DL.D, decide (((((xs.filter fun x => !c x).map fun x => x).length : Nat) : Int) = 0) = xs.all c
  | [] => rfl
  | x :: xs => by
    rw [List.all_cons, ← none_all c xs]
    cases h : c x with
    | true => rw [List.filter_cons_of_neg (by rw [h]; decide), Bool.true_and]
    | false => rw [List.filter_cons_of_pos (by rw [h]; decide), Bool.false_and, List.map_cons, List.length_cons]; exact decide_eq_false (by omega)
theorem row_is (v : DL.D) (lo hi : Int) (hv : ∀ xs, v = .tuple xs → xs.length ≤ 100000) : m_law_is_row [.v v, .v .none, .v (.int lo), .v (.int hi)] = .ret (.v (.bool (rowB v lo hi))) := by
  cases v with
  | tuple xs =>
    have hl := hv xs rfl
    have lc := lc_pure (g := gSet 4) (mt := tOrM (tNotM (tOf (mCall m_law_is_integer (mCons (mVar 4) mNil)))) (tOrM (tOf (mBin dLt (mVar 4) (mVar 2))) (tOf (mBin dGt (mVar 4) (mVar 3))))) (m := mVar 4) (vs := [4]) (σ := [.v (.tuple xs), .v .none, .v (.int lo), .v (.int hi), .u]) (c := fun x => !inR x lo hi) (f := fun x => x) xs fun d _ =>
      ⟨[.v (.tuple xs), .v .none, .v (.int lo), .v (.int hi), .v d], rfl, by
        cases d with
        | int i =>
          simp -implicitDefEqProofs only [e_mC, e_mVar, e_mBin, e_kB1, e_kB2, e_kB3, e_kB4, e_kP, e_mUn, e_kU1, e_kU2, e_mNil, e_mCons, e_kC1, e_kC2, e_mB, e_kA1, e_kA2, e_mTup, e_mLst, e_kT1, e_kL1, e_kJ, e_kJb, e_mIf, e_kI1, e_mAndV, e_kV1, e_kV2, e_mOrV, e_kO1, e_kO2, e_mNotV, e_kN1, e_tOf, e_kQ1, e_tAndM, e_tOrM, e_kAn, e_kOr, e_tNotM, e_tYes, e_toB, e_looks0, e_looks1, e_lookv, e_looko, e_looks, e_Od, e_argv, e_argo, e_args, e_argsOf0, e_argsOf1, e_one, e_mCall, e_kF1, e_kF2, e_kF3, e_at0, e_at1, e_at2, e_at3, e_at4, e_at5, e_at6, e_at7, e_mIsi, e_mSl, e_kS1, e_kS2, e_kS3, e_oNone, e_oSome, e_sNext, e_sSeq, e_kSeq0, e_kSeq1, e_sIf, e_kIf, e_sRet, e_kRet, e_retv, e_reto, e_rets, e_sSet, e_kSt, e_wrO, e_wru, e_wrv, e_wrl, e_storv, e_dic0, e_dic1, e_lookd0, e_storo, e_stors, e_sFor, e_kFor, e_for0, e_for1, e_kBd, e_kGo0, e_kGo1, e_iSeq, e_iRng, e_gSet, e_mLc, e_kLc1, e_kLc2, e_wipe0, e_wipe1, e_frz0, e_frz1, e_frz, e_fnM, e_kFn0, e_kFn1, e_chain, e_put, e_own, bind_ite, wp_ite, bind_draw, bind_r, wp_ret, wp_draw, e_chk, bind_s, pools, O.toD, List.append_nil, List.nil_append, List.cons_append, List.length_cons, List.length_nil, List.replicate, List.getElem?_cons_zero, List.getElem?_cons_succ, List.set, slotsAll, slotsOf, List.flatMap_cons, List.flatMap_nil, Bool.false_eq_true, if_true, if_false, Bool.not_true, Bool.not_false, Nat.zero_add, Nat.le_refl, Nat.zero_le, isi_none, isi_bool, isi_int, isi_str, isi_list, isi_tuple, isi_dict, dIs, dIsNot, isNone, decide_eq_true_eq, Bool.not_eq_true, Nat.reduceLeDiff, Nat.reduceAdd, Nat.reduceSub, itemsOf, whole_is, isW, dLt_int, dGt_int, inR]
          by_cases h : i < lo
          · have h2 : ¬ lo ≤ i := by omega
            simp -implicitDefEqProofs only [h, h2, e_mC, e_mVar, e_mBin, e_kB1, e_kB2, e_kB3, e_kB4, e_kP, e_mUn, e_kU1, e_kU2, e_mNil, e_mCons, e_kC1, e_kC2, e_mB, e_kA1, e_kA2, e_mTup, e_mLst, e_kT1, e_kL1, e_kJ, e_kJb, e_mIf, e_kI1, e_mAndV, e_kV1, e_kV2, e_mOrV, e_kO1, e_kO2, e_mNotV, e_kN1, e_tOf, e_kQ1, e_tAndM, e_tOrM, e_kAn, e_kOr, e_tNotM, e_tYes, e_toB, e_looks0, e_looks1, e_lookv, e_looko, e_looks, e_Od, e_argv, e_argo, e_args, e_argsOf0, e_argsOf1, e_one, e_mCall, e_kF1, e_kF2, e_kF3, e_at0, e_at1, e_at2, e_at3, e_at4, e_at5, e_at6, e_at7, e_mIsi, e_mSl, e_kS1, e_kS2, e_kS3, e_oNone, e_oSome, e_sNext, e_sSeq, e_kSeq0, e_kSeq1, e_sIf, e_kIf, e_sRet, e_kRet, e_retv, e_reto, e_rets, e_sSet, e_kSt, e_wrO, e_wru, e_wrv, e_wrl, e_storv, e_dic0, e_dic1, e_lookd0, e_storo, e_stors, e_sFor, e_kFor, e_for0, e_for1, e_kBd, e_kGo0, e_kGo1, e_iSeq, e_iRng, e_gSet, e_mLc, e_kLc1, e_kLc2, e_wipe0, e_wipe1, e_frz0, e_frz1, e_frz, e_fnM, e_kFn0, e_kFn1, e_chain, e_put, e_own, bind_ite, wp_ite, bind_draw, bind_r, wp_ret, wp_draw, e_chk, bind_s, pools, O.toD, List.append_nil, List.nil_append, List.cons_append, List.length_cons, List.length_nil, List.replicate, List.getElem?_cons_zero, List.getElem?_cons_succ, List.set, slotsAll, slotsOf, List.flatMap_cons, List.flatMap_nil, Bool.false_eq_true, if_true, if_false, Bool.not_true, Bool.not_false, Nat.zero_add, Nat.le_refl, Nat.zero_le, isi_none, isi_bool, isi_int, isi_str, isi_list, isi_tuple, isi_dict, dIs, dIsNot, isNone, decide_eq_true_eq, Bool.not_eq_true, Nat.reduceLeDiff, Nat.reduceAdd, Nat.reduceSub, itemsOf, decide_true, decide_false, Bool.false_and]
          · have h2 : lo ≤ i := by omega
            simp -implicitDefEqProofs only [h, h2, e_mC, e_mVar, e_mBin, e_kB1, e_kB2, e_kB3, e_kB4, e_kP, e_mUn, e_kU1, e_kU2, e_mNil, e_mCons, e_kC1, e_kC2, e_mB, e_kA1, e_kA2, e_mTup, e_mLst, e_kT1, e_kL1, e_kJ, e_kJb, e_mIf, e_kI1, e_mAndV, e_kV1, e_kV2, e_mOrV, e_kO1, e_kO2, e_mNotV, e_kN1, e_tOf, e_kQ1, e_tAndM, e_tOrM, e_kAn, e_kOr, e_tNotM, e_tYes, e_toB, e_looks0, e_looks1, e_lookv, e_looko, e_looks, e_Od, e_argv, e_argo, e_args, e_argsOf0, e_argsOf1, e_one, e_mCall, e_kF1, e_kF2, e_kF3, e_at0, e_at1, e_at2, e_at3, e_at4, e_at5, e_at6, e_at7, e_mIsi, e_mSl, e_kS1, e_kS2, e_kS3, e_oNone, e_oSome, e_sNext, e_sSeq, e_kSeq0, e_kSeq1, e_sIf, e_kIf, e_sRet, e_kRet, e_retv, e_reto, e_rets, e_sSet, e_kSt, e_wrO, e_wru, e_wrv, e_wrl, e_storv, e_dic0, e_dic1, e_lookd0, e_storo, e_stors, e_sFor, e_kFor, e_for0, e_for1, e_kBd, e_kGo0, e_kGo1, e_iSeq, e_iRng, e_gSet, e_mLc, e_kLc1, e_kLc2, e_wipe0, e_wipe1, e_frz0, e_frz1, e_frz, e_fnM, e_kFn0, e_kFn1, e_chain, e_put, e_own, bind_ite, wp_ite, bind_draw, bind_r, wp_ret, wp_draw, e_chk, bind_s, pools, O.toD, List.append_nil, List.nil_append, List.cons_append, List.length_cons, List.length_nil, List.replicate, List.getElem?_cons_zero, List.getElem?_cons_succ, List.set, slotsAll, slotsOf, List.flatMap_cons, List.flatMap_nil, Bool.false_eq_true, if_true, if_false, Bool.not_true, Bool.not_false, Nat.zero_add, Nat.le_refl, Nat.zero_le, isi_none, isi_bool, isi_int, isi_str, isi_list, isi_tuple, isi_dict, dIs, dIsNot, isNone, decide_eq_true_eq, Bool.not_eq_true, Nat.reduceLeDiff, Nat.reduceAdd, Nat.reduceSub, itemsOf, decide_true, decide_false, Bool.true_and]
            by_cases h3 : i ≤ hi
            · have h4 : ¬ hi < i := by omega
              simp only [h3, h4, decide_true, decide_false, Bool.not_true]
            · have h4 : hi < i := by omega
              simp only [h3, h4, decide_true, decide_false, Bool.not_false]
        | _ => simp -implicitDefEqProofs only [e_mC, e_mVar, e_mBin, e_kB1, e_kB2, e_kB3, e_kB4, e_kP, e_mUn, e_kU1, e_kU2, e_mNil, e_mCons, e_kC1, e_kC2, e_mB, e_kA1, e_kA2, e_mTup, e_mLst, e_kT1, e_kL1, e_kJ, e_kJb, e_mIf, e_kI1, e_mAndV, e_kV1, e_kV2, e_mOrV, e_kO1, e_kO2, e_mNotV, e_kN1, e_tOf, e_kQ1, e_tAndM, e_tOrM, e_kAn, e_kOr, e_tNotM, e_tYes, e_toB, e_looks0, e_looks1, e_lookv, e_looko, e_looks, e_Od, e_argv, e_argo, e_args, e_argsOf0, e_argsOf1, e_one, e_mCall, e_kF1, e_kF2, e_kF3, e_at0, e_at1, e_at2, e_at3, e_at4, e_at5, e_at6, e_at7, e_mIsi, e_mSl, e_kS1, e_kS2, e_kS3, e_oNone, e_oSome, e_sNext, e_sSeq, e_kSeq0, e_kSeq1, e_sIf, e_kIf, e_sRet, e_kRet, e_retv, e_reto, e_rets, e_sSet, e_kSt, e_wrO, e_wru, e_wrv, e_wrl, e_storv, e_dic0, e_dic1, e_lookd0, e_storo, e_stors, e_sFor, e_kFor, e_for0, e_for1, e_kBd, e_kGo0, e_kGo1, e_iSeq, e_iRng, e_gSet, e_mLc, e_kLc1, e_kLc2, e_wipe0, e_wipe1, e_frz0, e_frz1, e_frz, e_fnM, e_kFn0, e_kFn1, e_chain, e_put, e_own, bind_ite, wp_ite, bind_draw, bind_r, wp_ret, wp_draw, e_chk, bind_s, pools, O.toD, List.append_nil, List.nil_append, List.cons_append, List.length_cons, List.length_nil, List.replicate, List.getElem?_cons_zero, List.getElem?_cons_succ, List.set, slotsAll, slotsOf, List.flatMap_cons, List.flatMap_nil, Bool.false_eq_true, if_true, if_false, Bool.not_true, Bool.not_false, Nat.zero_add, Nat.le_refl, Nat.zero_le, isi_none, isi_bool, isi_int, isi_str, isi_list, isi_tuple, isi_dict, dIs, dIsNot, isNone, decide_eq_true_eq, Bool.not_eq_true, Nat.reduceLeDiff, Nat.reduceAdd, Nat.reduceSub, itemsOf, whole_is, isW, inR], rfl, fun _ => rfl⟩
    simp -implicitDefEqProofs only [m_law_is_row, e_mC, e_mVar, e_mBin, e_kB1, e_kB2, e_kB3, e_kB4, e_kP, e_mUn, e_kU1, e_kU2, e_mNil, e_mCons, e_kC1, e_kC2, e_mB, e_kA1, e_kA2, e_mTup, e_mLst, e_kT1, e_kL1, e_kJ, e_kJb, e_mIf, e_kI1, e_mAndV, e_kV1, e_kV2, e_mOrV, e_kO1, e_kO2, e_mNotV, e_kN1, e_tOf, e_kQ1, e_tAndM, e_tOrM, e_kAn, e_kOr, e_tNotM, e_tYes, e_toB, e_looks0, e_looks1, e_lookv, e_looko, e_looks, e_Od, e_argv, e_argo, e_args, e_argsOf0, e_argsOf1, e_one, e_mCall, e_kF1, e_kF2, e_kF3, e_at0, e_at1, e_at2, e_at3, e_at4, e_at5, e_at6, e_at7, e_mIsi, e_mSl, e_kS1, e_kS2, e_kS3, e_oNone, e_oSome, e_sNext, e_sSeq, e_kSeq0, e_kSeq1, e_sIf, e_kIf, e_sRet, e_kRet, e_retv, e_reto, e_rets, e_sSet, e_kSt, e_wrO, e_wru, e_wrv, e_wrl, e_storv, e_dic0, e_dic1, e_lookd0, e_storo, e_stors, e_sFor, e_kFor, e_for0, e_for1, e_kBd, e_kGo0, e_kGo1, e_iSeq, e_iRng, e_gSet, e_mLc, e_kLc1, e_kLc2, e_wipe0, e_wipe1, e_frz0, e_frz1, e_frz, e_fnM, e_kFn0, e_kFn1, e_chain, e_put, e_own, bind_ite, wp_ite, bind_draw, bind_r, wp_ret, wp_draw, e_chk, bind_s, pools, O.toD, List.append_nil, List.nil_append, List.cons_append, List.length_cons, List.length_nil, List.replicate, List.getElem?_cons_zero, List.getElem?_cons_succ, List.set, slotsAll, slotsOf, List.flatMap_cons, List.flatMap_nil, Bool.false_eq_true, if_true, if_false, Bool.not_true, Bool.not_false, Nat.zero_add, Nat.le_refl, Nat.zero_le, isi_none, isi_bool, isi_int, isi_str, isi_list, isi_tuple, isi_dict, dIs, dIsNot, isNone, decide_eq_true_eq, Bool.not_eq_true, Nat.reduceLeDiff, Nat.reduceAdd, Nat.reduceSub, itemsOf, hl, lc, out, List.filter_nil, bLen_list, dEq_int, none_all, rowB]
  | _ => simp -implicitDefEqProofs only [m_law_is_row, e_mC, e_mVar, e_mBin, e_kB1, e_kB2, e_kB3, e_kB4, e_kP, e_mUn, e_kU1, e_kU2, e_mNil, e_mCons, e_kC1, e_kC2, e_mB, e_kA1, e_kA2, e_mTup, e_mLst, e_kT1, e_kL1, e_kJ, e_kJb, e_mIf, e_kI1, e_mAndV, e_kV1, e_kV2, e_mOrV, e_kO1, e_kO2, e_mNotV, e_kN1, e_tOf, e_kQ1, e_tAndM, e_tOrM, e_kAn, e_kOr, e_tNotM, e_tYes, e_toB, e_looks0, e_looks1, e_lookv, e_looko, e_looks, e_Od, e_argv, e_argo, e_args, e_argsOf0, e_argsOf1, e_one, e_mCall, e_kF1, e_kF2, e_kF3, e_at0, e_at1, e_at2, e_at3, e_at4, e_at5, e_at6, e_at7, e_mIsi, e_mSl, e_kS1, e_kS2, e_kS3, e_oNone, e_oSome, e_sNext, e_sSeq, e_kSeq0, e_kSeq1, e_sIf, e_kIf, e_sRet, e_kRet, e_retv, e_reto, e_rets, e_sSet, e_kSt, e_wrO, e_wru, e_wrv, e_wrl, e_storv, e_dic0, e_dic1, e_lookd0, e_storo, e_stors, e_sFor, e_kFor, e_for0, e_for1, e_kBd, e_kGo0, e_kGo1, e_iSeq, e_iRng, e_gSet, e_mLc, e_kLc1, e_kLc2, e_wipe0, e_wipe1, e_frz0, e_frz1, e_frz, e_fnM, e_kFn0, e_kFn1, e_chain, e_put, e_own, bind_ite, wp_ite, bind_draw, bind_r, wp_ret, wp_draw, e_chk, bind_s, pools, O.toD, List.append_nil, List.nil_append, List.cons_append, List.length_cons, List.length_nil, List.replicate, List.getElem?_cons_zero, List.getElem?_cons_succ, List.set, slotsAll, slotsOf, List.flatMap_cons, List.flatMap_nil, Bool.false_eq_true, if_true, if_false, Bool.not_true, Bool.not_false, Nat.zero_add, Nat.le_refl, Nat.zero_le, isi_none, isi_bool, isi_int, isi_str, isi_list, isi_tuple, isi_dict, dIs, dIsNot, isNone, decide_eq_true_eq, Bool.not_eq_true, Nat.reduceLeDiff, Nat.reduceAdd, Nat.reduceSub, itemsOf, rowB]
end DL

namespace PL
open PySem PySem.Spec PyProof.Rows L2 DL
/-! ### trees that say the same -/
inductive Rl {α β : Type} (Φ : α → β → Prop) : T α → T β → Prop
  | stop {t : T β} : Rl Φ .stop t
  | ret {a : α} {b : β} : Φ a b → Rl Φ (.ret a) (.ret b)
  | draw {n : Int} {k : Int → T α} {k' : Int → T β} : (∀ i, Rl Φ (k i) (k' i)) → Rl Φ (.draw n k) (.draw n k')
section
variable {α β γ δ : Type} {Φ : α → β → Prop} {Ψ : γ → δ → Prop} {p : T α} {m : T β}
theorem Rl.bind {f : α → T γ} {g : β → T δ} (h : Rl Φ p m) (q : ∀ a b, Φ a b → Rl Ψ (f a) (g b)) : Rl Ψ (p.bind f) (m.bind g) := by
  induction h with
  | stop => exact .stop
  | ret r => exact q _ _ r
  | draw _ ih => exact .draw ih
/-- the same with nothing done on the one side -/
theorem Rl.bindR {g : β → T δ} {Ψ : α → δ → Prop} (h : Rl Φ p m) (q : ∀ a b, Φ a b → Rl Ψ (.ret a) (g b)) : Rl Ψ p (m.bind g) := by
  rw [← T.bind_id p]
  exact h.bind q
theorem Rl.mono {Φ' : α → β → Prop} (h : Rl Φ p m) (q : ∀ a b, Φ a b → Φ' a b) : Rl Φ' p m := by
  induction h with
  | stop => exact .stop
  | ret r => exact .ret (q _ _ r)
  | draw _ ih => exact .draw ih
theorem Rl.eq : ∀ (t : T α), Rl Eq t t
  | .ret _ => .ret rfl
  | .stop => .stop
  | .draw _ k => .draw fun i => Rl.eq (k i)
theorem Rl.wp {Q : α → Prop} (h : Rl Φ p m) (q : p.wp Q) : m.wp fun b => ∃ a, Q a ∧ Φ a b := by
  induction h with
  | stop => exact q.elim
  | ret r => exact ⟨_, q, r⟩
  | draw _ ih => exact ⟨q.1, fun i h0 h1 => ih i (q.2 i h0 h1)⟩
theorem Rl.ret_inv {a : α} (h : Rl Φ (.ret a) m) : ∃ b, m = .ret b ∧ Φ a b := by
  cases h with
  | ret r => exact ⟨_, rfl, r⟩
theorem Rl.of_eq {p' : T α} (h : Rl Φ p m) (e : p' = p) : Rl Φ p' m := e ▸ h
end
/-! ### what is known of slots -/
inductive Pt where
  | any
  | v (d : DL.D)
  | l (ds : List DL.D)
  | f (d : DL.D)
  | k (kvs : List (Key × DL.D))
  | rg (lo hi : Int)
  | b (a : Addr) (kvs : List (Key × DL.D))
  | pool
def Pt.own : Pt → Bool
  | .l _ => true
  | .k _ => true
  | .b _ _ => true
  | _ => false
def Pt.wr : Pt → Bool
  | .pool => false
  | _ => true
inductive Ms : Pt → Sl → Prop
  | anyU : Ms .any .u
  | anyV (d : DL.D) : Ms .any (.v d)
  | anyL (ds : List DL.D) : Ms .any (.o (.lst ds))
  | anyK (kvs : List (Key × DL.D)) : Ms .any (.o (.dic kvs))
  | anyR (lo hi : Int) : Ms .any (.o (.rng lo hi))
  | anyB (a : Addr) (kvs : List (Key × DL.D)) : Ms .any (.o (.bor a kvs))
  | v (d : DL.D) : Ms (.v d) (.v d)
  | l (ds : List DL.D) : Ms (.l ds) (.o (.lst ds))
  | fv (d : DL.D) : Ms (.f d) (.v d)
  | fo (x : O) (d : DL.D) : x.toD = some d → Ms (.f d) (.o x)
  | k (kvs : List (Key × DL.D)) : Ms (.k kvs) (.o (.dic kvs))
  | rg (lo hi : Int) : Ms (.rg lo hi) (.o (.rng lo hi))
  | b (a : Addr) (kvs : List (Key × DL.D)) : Ms (.b a kvs) (.o (.bor a kvs))
  | pool : Ms .pool (.o .pool)
theorem Ms.any {p : Pt} {s : Sl} (h : Ms p s) (w : p.wr = true) : Ms .any s := by
  cases h with
  | anyU => exact .anyU
  | anyV d => exact .anyV d
  | anyL d => exact .anyL d
  | anyK d => exact .anyK d
  | anyR a b => exact .anyR a b
  | anyB a b => exact .anyB a b
  | v d => exact .anyV d
  | l d => exact .anyL d
  | fv d => exact .anyV d
  | fo x d e =>
    cases x with
    | lst ds => exact .anyL ds
    | dic ks => exact .anyK ks
    | rng _ _ => cases e
    | bor a ks => exact .anyB a ks
    | pool => cases e
  | k d => exact .anyK d
  | rg a b => exact .anyR a b
  | b a k => exact .anyB a k
  | pool => cases w
theorem Ms.wrs {p : Pt} {s : Sl} (h : Ms p s) (w : p.wr = true) : DL.wr s = true := by
  cases h.any w <;> rfl
inductive Mat : List Pt → DL.Env → Prop
  | nil : Mat [] []
  | cons {p : Pt} {s : Sl} {π : List Pt} {σ : DL.Env} : Ms p s → Mat π σ → Mat (p :: π) (s :: σ)
section
variable {π π' : List Pt} {σ : DL.Env} {i : Nat} {p : Pt} {s : Sl}
theorem Mat.get (h : Mat π σ) : ∀ {i : Nat} {p : Pt}, π[i]? = some p → ∃ s, σ[i]? = some s ∧ Ms p s := by
  induction h with
  | nil => intro i p e; simp at e
  | cons a _ ih =>
    intro i p e
    cases i with
    | zero => simp at e; subst e; exact ⟨_, rfl, a⟩
    | succ i => simp at e; simpa using ih e
theorem Mat.get' (h : Mat π σ) : ∀ {i : Nat} {s : Sl}, σ[i]? = some s → ∃ p, π[i]? = some p ∧ Ms p s := by
  induction h with
  | nil => intro i p e; simp at e
  | cons a _ ih =>
    intro i p e
    cases i with
    | zero => simp at e; subst e; exact ⟨_, rfl, a⟩
    | succ i => simp at e; simpa using ih e
theorem Mat.set (h : Mat π σ) : ∀ (i : Nat) {p : Pt} {s : Sl}, Ms p s → Mat (π.set i p) (σ.set i s) := by
  induction h with
  | nil => intro i p s _; exact .nil
  | cons a h ih =>
    intro i p s e
    cases i with
    | zero => exact .cons e h
    | succ i => exact .cons a (ih i e)
theorem Mat.setSame (h : Mat π σ) : ∀ {i : Nat} {p : Pt} {s : Sl}, π[i]? = some p → Ms p s → Mat π (σ.set i s) := by
  induction h with
  | nil => intro i p s e _; simp at e
  | cons a h ih =>
    intro i p s e q
    cases i with
    | zero => simp at e; subst e; exact .cons q h
    | succ i => simp at e; exact .cons a (ih e q)
def kept (π : List Pt) (k : List Nat) : Prop := ∀ i ∈ k, ∀ p, π[i]? = some p → p.own = false
theorem kept.nil : kept π [] := fun _ z => nomatch z
theorem kept.app {k l : List Nat} (h : kept π k) (h' : kept π l) : kept π (k ++ l) := fun i hi => (List.mem_append.mp hi).elim (h i) (h' i)
theorem Mat.frz1 (h : Mat π σ) (q : ∀ p, π[i]? = some p → p.own = false) : Mat π (DL.frz1 σ i) := by
  unfold DL.frz1
  split
  · rename_i x hx
    split
    · rename_i d hd
      obtain ⟨p, e, m⟩ := h.get' hx
      refine h.setSame e ?_
      have o := q p e
      cases m with
      | anyL _ => exact .anyV _
      | anyK _ => exact .anyV _
      | anyR _ _ => cases hd
      | anyB _ _ => exact .anyV _
      | l _ => cases o
      | k _ => cases o
      | rg _ _ => cases hd
      | b _ _ => cases o
      | fo x d' e' => rw [hd] at e'; cases e'; exact .fv _
      | pool => cases hd
    · exact h
  · exact h
theorem Mat.frz {k : List Nat} (h : Mat π σ) (q : kept π k) : Mat π (DL.frz σ k) := by
  induction k generalizing σ with
  | nil => exact h
  | cons i k ih => exact ih (h.frz1 (q i (List.mem_cons_self ..))) fun j hj => q j (List.mem_cons_of_mem _ hj)
theorem Mat.ne (h : Mat π σ) {x : Sl} {r : List Sl} (e : σ = []) : π = [] := by subst e; cases h; rfl
inductive Sub : List Pt → List Pt → Prop
  | nil : Sub [] []
  | same {p : Pt} {π π' : List Pt} : Sub π π' → Sub (p :: π) (p :: π')
  | any {p : Pt} {π π' : List Pt} : p.wr = true → Sub π π' → Sub (p :: π) (.any :: π')
  | lf {ds : List DL.D} {π π' : List Pt} : Sub π π' → Sub (.l ds :: π) (.f (.list ds) :: π')
  | vf {d : DL.D} {π π' : List Pt} : Sub π π' → Sub (.v d :: π) (.f d :: π')
  | kf {kvs : List (Key × DL.D)} {π π' : List Pt} : Sub π π' → Sub (.k kvs :: π) (.f (.dict (kvs.map fun p => (keyD p.1, p.2))) :: π')
theorem Sub.mat (h : Sub π π') : ∀ {σ}, Mat π σ → Mat π' σ := by
  induction h with
  | nil => intro σ m; exact m
  | same _ ih => intro σ m; cases m with | cons a m => exact .cons a (ih m)
  | any w _ ih => intro σ m; cases m with | cons a m => exact .cons (a.any w) (ih m)
  | lf _ ih => intro σ m; cases m with | cons a m => cases a; exact .cons (.fo _ _ rfl) (ih m)
  | vf _ ih => intro σ m; cases m with | cons a m => cases a; exact .cons (.fv _) (ih m)
  | kf _ ih => intro σ m; cases m with | cons a m => cases a; exact .cons (.fo _ _ rfl) (ih m)
theorem Sub.refl : ∀ (π : List Pt), Sub π π
  | [] => .nil
  | _ :: π => .same (Sub.refl π)
end
/-! ### kinds of results -/
def slR : R → Option Sl
  | .v d => some (.v d)
  | .o x => some (.o x)
  | .s _ => none
structure Kd (α : Type) where
  rel : α → R → Prop
  val : α → DL.D
  pt : α → Pt
  of : R → T α
  lk : ∀ {a r}, rel a r → ∀ σ, look σ r = .ret (val a)
  ns : ∀ {a r}, rel a r → slotsOf r = []
  st : ∀ {a r}, rel a r → ∃ s, slR r = some s ∧ Ms (pt a) s
  fo : ∀ r, Rl rel (of r) (.ret r)
  wr : ∀ a, (pt a).wr = true
def KV : Kd DL.D where
  rel := fun d r => r = .v d
  val := fun d => d
  pt := fun d => .v d
  of := fun r => match r with | .v d => .ret d | _ => .stop
  lk := fun e σ => by rw [e]; rfl
  ns := fun e => by rw [e]; rfl
  st := fun e => by rw [e]; exact ⟨_, rfl, .v _⟩
  fo := fun r => by cases r with | v d => exact .ret rfl | _ => exact .stop
  wr := fun _ => rfl
def KB : Kd Bool where
  rel := fun b r => r = .v (.bool b)
  val := fun b => .bool b
  pt := fun b => .v (.bool b)
  of := fun r => match r with | .v (.bool b) => .ret b | _ => .stop
  lk := fun e σ => by rw [e]; rfl
  ns := fun e => by rw [e]; rfl
  st := fun e => by rw [e]; exact ⟨_, rfl, .v _⟩
  fo := fun r => by
    cases r with
    | v d => cases d with | bool b => exact .ret rfl | _ => exact .stop
    | _ => exact .stop
  wr := fun _ => rfl
def KL : Kd (List DL.D) where
  rel := fun l r => r = .o (.lst l)
  val := fun l => .list l
  pt := fun l => .l l
  of := fun r => match r with | .o (.lst l) => .ret l | _ => .stop
  lk := fun e σ => by rw [e]; rfl
  ns := fun e => by rw [e]; rfl
  st := fun e => by rw [e]; exact ⟨_, rfl, .l _⟩
  fo := fun r => by
    cases r with
    | o d => cases d with | lst b => exact .ret rfl | _ => exact .stop
    | _ => exact .stop
  wr := fun _ => rfl
def KK : Kd (List (Key × DL.D)) where
  rel := fun l r => r = .o (.dic l)
  val := fun l => .dict (l.map fun p => (keyD p.1, p.2))
  pt := fun l => .k l
  of := fun r => match r with | .o (.dic l) => .ret l | _ => .stop
  lk := fun e σ => by rw [e]; rfl
  ns := fun e => by rw [e]; rfl
  st := fun e => by rw [e]; exact ⟨_, rfl, .k _⟩
  fo := fun r => by
    cases r with
    | o d => cases d with | dic b => exact .ret rfl | _ => exact .stop
    | _ => exact .stop
  wr := fun _ => rfl
def RF (d : DL.D) (r : R) : Prop := r = .v d ∨ ∃ x, r = .o x ∧ x.toD = some d
def KF : Kd DL.D where
  rel := RF
  val := fun d => d
  pt := fun d => .f d
  of := fun r => match r with | .v d => .ret d | .o x => (match x.toD with | some d => .ret d | none => .stop) | _ => .stop
  lk := fun e σ => by
    rcases e with e | ⟨x, e, h⟩
    · rw [e]; rfl
    · rw [e]; show O.d x = _; unfold O.d; rw [h]
  ns := fun e => by
    rcases e with e | ⟨x, e, h⟩ <;> rw [e] <;> rfl
  st := fun e => by
    rcases e with e | ⟨x, e, h⟩
    · rw [e]; exact ⟨_, rfl, .fv _⟩
    · rw [e]; exact ⟨_, rfl, .fo _ _ h⟩
  fo := fun r => by
    cases r with
    | v d => exact .ret (.inl rfl)
    | o x =>
      show Rl RF (match x.toD with | some d => .ret d | none => .stop) _
      split
      · rename_i d h; exact .ret (.inr ⟨x, rfl, h⟩)
      · exact .stop
    | _ => exact .stop
  wr := fun _ => rfl
theorem KV.f {d : DL.D} {r : R} (h : KV.rel d r) : RF d r := .inl h
theorem KB.f {d : Bool} {r : R} (h : KB.rel d r) : RF (.bool d) r := .inl h
theorem KL.f {d : List DL.D} {r : R} (h : KL.rel d r) : RF (.list d) r := .inr ⟨_, h, rfl⟩
/-- a tree's results as a kind -/
theorem of_rl {α : Type} (κ : Kd α) {k : List Nat} {π : List Pt} (hk : kept π k) (t : T R) : Rl (fun a (rk : R × List Nat) => κ.rel a rk.1 ∧ kept π rk.2) (t.bind κ.of) (t.bind fun r => .ret (r, k)) :=
  (Rl.eq t).bind fun a b e => by
    subst e
    have := κ.fo a
    exact (this.bindR (g := fun r => T.ret (r, k)) fun a b h => .ret ⟨h, hk⟩)
end PL

namespace PL
open PySem PySem.Spec PyProof.Rows L2 DL
/-! ### expressions -/
def LK (π : List Pt) (d : DL.D) (r : R) : Prop := ∀ σ, Mat π σ → look σ r = .ret d
def PE {α : Type} (π : List Pt) (m : M) (κ : Kd α) (p : T α) : Prop := ∀ σ, Mat π σ → Rl (fun a (rk : R × List Nat) => κ.rel a rk.1 ∧ kept π rk.2) p (m σ)
/-- an operand: it can be looked at -/
def PO (π : List Pt) (m : M) (p : T DL.D) : Prop := ∀ σ, Mat π σ → Rl (fun d (rk : R × List Nat) => LK π d rk.1 ∧ kept π rk.2) p (m σ)
/-- a safe one: it can be given away -/
def PS (π : List Pt) (m : M) (p : T DL.D) : Prop := ∀ σ, Mat π σ → Rl (fun d (rk : R × List Nat) => (LK π d rk.1 ∧ kept π (slotsOf rk.1)) ∧ kept π rk.2) p (m σ)
def PTt (π : List Pt) (m : MT) (p : T Bool) : Prop := ∀ σ, Mat π σ → Rl (fun b (rk : Bool × List Nat) => rk.1 = b ∧ kept π rk.2) p (m σ)
def LKs (π : List Pt) : List DL.D → List R → Prop
  | [], [] => True
  | d :: ds, r :: rs => LK π d r ∧ LKs π ds rs
  | _, _ => False
/-- operands in a row -/
def PA (π : List Pt) (m : MA) (p : T (List DL.D)) : Prop := ∀ σ, Mat π σ → Rl (fun ds (rk : List R × List Nat) => LKs π ds rk.1 ∧ kept π rk.2) p (m σ)
/-- safe ones in a row -/
def PAs (π : List Pt) (m : MA) (p : T (List DL.D)) : Prop := ∀ σ, Mat π σ → Rl (fun ds (rk : List R × List Nat) => (LKs π ds rk.1 ∧ kept π (slotsAll rk.1)) ∧ kept π rk.2) p (m σ)
/-- what is walked -/
def PI (π : List Pt) (m : MI) (p : T (List DL.D)) : Prop := ∀ σ, Mat π σ → Rl (fun ds (rk : List DL.D × List Nat) => rk.1 = ds ∧ kept π rk.2) p (m σ)
def PP (π : List Pt) (m : MO) (p : T (Option Int)) : Prop := ∀ σ, Mat π σ → Rl (fun ds (rk : Option Int × List Nat) => rk.1 = ds ∧ kept π rk.2) p (m σ)
theorem look_s {σ : DL.Env} {i : Nat} : look σ (.s i) = match σ[i]? with | some (.v d) => .ret d | some (.o x) => x.d | _ => .stop := rfl
section
variable {α β : Type} {κ : Kd α} {κ' : Kd β} {π : List Pt} {m ma mb mc : M} {mt mu : MT} {ms : MA} {d : DL.D} {i : Nat} {p : T α}
theorem ps_of (h : PE π m κ p) : PS π m (p.bind fun a => .ret (κ.val a)) := fun σ hm => by
  have := (h σ hm)
  rw [show m σ = (m σ).bind .ret from (T.bind_id _).symm]
  exact this.bind fun a rk e => .ret ⟨⟨fun σ' _ => κ.lk e.1 σ', by rw [κ.ns e.1]; exact kept.nil⟩, e.2⟩
theorem ps_v {p : T DL.D} (h : PE π m KV p) : PS π m p := fun σ hm => (h σ hm).mono fun a rk e => ⟨⟨fun σ' _ => KV.lk e.1 σ', by rw [KV.ns e.1]; exact kept.nil⟩, e.2⟩
theorem po_s {p : T DL.D} (h : PS π m p) : PO π m p := fun σ hm => (h σ hm).mono fun a rk e => ⟨e.1.1, e.2⟩
theorem po_v {p : T DL.D} (h : PE π m KV p) : PO π m p := po_s (ps_v h)
theorem po_of (h : PE π m κ p) : PO π m (p.bind fun a => .ret (κ.val a)) := po_s (ps_of h)
theorem po_l {ds : List DL.D} (e : π[i]? = some (.l ds)) : PO π (mVar i) (.ret (.list ds)) := fun σ hm => by
  obtain ⟨s, h1, h2⟩ := hm.get e
  cases h2
  have : mVar i σ = .ret (.s i, []) := by unfold mVar; rw [h1]
  rw [this]
  refine .ret ⟨fun σ' hm' => ?_, kept.nil⟩
  obtain ⟨s, h1, h2⟩ := hm'.get e
  cases h2
  rw [look_s, h1]; rfl
theorem po_k {ds : List (Key × DL.D)} (e : π[i]? = some (.k ds)) : PO π (mVar i) (.ret (.dict (ds.map fun p => (keyD p.1, p.2)))) := fun σ hm => by
  obtain ⟨s, h1, h2⟩ := hm.get e
  cases h2
  have : mVar i σ = .ret (.s i, []) := by unfold mVar; rw [h1]
  rw [this]
  refine .ret ⟨fun σ' hm' => ?_, kept.nil⟩
  obtain ⟨s, h1, h2⟩ := hm'.get e
  cases h2
  rw [look_s, h1]; rfl
theorem ps_f (e : π[i]? = some (.f d)) : PS π (mVar i) (.ret d) := fun σ hm => by
  have lk : ∀ σ', Mat π σ' → look σ' (.s i) = .ret d := fun σ' hm' => by
    obtain ⟨s, h1, h2⟩ := hm'.get e
    rw [look_s, h1]
    cases h2 with
    | fv _ => rfl
    | fo x _ hx => show O.d x = _; unfold O.d; rw [hx]
  obtain ⟨s, h1, h2⟩ := hm.get e
  cases h2 with
  | fv _ =>
    have : mVar i σ = .ret (.v d, []) := by unfold mVar; rw [h1]
    rw [this]
    exact .ret ⟨⟨fun _ _ => rfl, kept.nil⟩, kept.nil⟩
  | fo x _ hx =>
    have : mVar i σ = .ret (.s i, []) := by unfold mVar; rw [h1]
    rw [this]
    refine .ret ⟨⟨lk, fun j hj p hp => ?_⟩, kept.nil⟩
    rw [List.mem_singleton.mp hj, e] at hp
    cases hp; rfl
theorem pe_c : PE π (mC d) KV (.ret d) := fun σ _ => .ret ⟨rfl, kept.nil⟩
theorem pe_cb {b : Bool} : PE π (mC (.bool b)) KB (.ret b) := fun σ _ => .ret ⟨rfl, kept.nil⟩
theorem pe_var (e : π[i]? = some (.v d)) : PE π (mVar i) KV (.ret d) := fun σ hm => by
  obtain ⟨s, h1, h2⟩ := hm.get e
  cases h2
  have : mVar i σ = .ret (.v d, []) := by unfold mVar; rw [h1]
  rw [this]
  exact .ret ⟨rfl, kept.nil⟩
theorem pe_varB {b : Bool} (e : π[i]? = some (.v (.bool b))) : PE π (mVar i) KB (.ret b) := fun σ hm => by
  obtain ⟨s, h1, h2⟩ := hm.get e
  cases h2
  have : mVar i σ = .ret (.v (.bool b), []) := by unfold mVar; rw [h1]
  rw [this]
  exact .ret ⟨rfl, kept.nil⟩
/-! kinds in kinds -/
theorem pe_bv {p : T Bool} (h : PE π m KB p) : PE π m KV (p.bind fun b => .ret (.bool b)) := fun σ hm => by
  rw [show m σ = (m σ).bind .ret from (T.bind_id _).symm]
  exact (h σ hm).bind fun a rk e => .ret e
def asBool : DL.D → T Bool
  | .bool b => .ret b
  | _ => .stop
theorem pe_vb {p : T DL.D} (h : PE π m KV p) : PE π m KB (p.bind asBool) := fun σ hm => by
  rw [show m σ = (m σ).bind .ret from (T.bind_id _).symm]
  exact (h σ hm).bind fun a rk e => by cases a with | bool b => exact .ret e | _ => exact .stop
theorem pe_vf {p : T DL.D} (h : PE π m KV p) : PE π m KF p := fun σ hm => (h σ hm).mono fun a rk e => ⟨.inl e.1, e.2⟩
theorem pe_lf {p : T (List DL.D)} (h : PE π m KL p) : PE π m KF (p.bind fun l => .ret (.list l)) := fun σ hm => by
  rw [show m σ = (m σ).bind .ret from (T.bind_id _).symm]
  exact (h σ hm).bind fun a rk e => .ret ⟨.inr ⟨_, e.1, rfl⟩, e.2⟩
theorem pe_kf {p : T (List (Key × DL.D))} (h : PE π m KK p) : PE π m KF (p.bind fun l => .ret (KK.val l)) := fun σ hm => by
  rw [show m σ = (m σ).bind .ret from (T.bind_id _).symm]
  exact (h σ hm).bind fun a rk e => .ret ⟨.inr ⟨_, e.1, rfl⟩, e.2⟩
theorem pe_bf {p : T Bool} (h : PE π m KB p) : PE π m KF (p.bind fun b => .ret (.bool b)) := pe_vf (pe_bv h)
/-! operators -/
def bin (κ : Kd α) (f : DL.D → DL.D → T R) (pa pb : T DL.D) : T α := pa.bind fun a => pb.bind fun b => (f a b).bind κ.of
theorem pe_bin {f : DL.D → DL.D → T R} {pa pb : T DL.D} (ha : PO π ma pa) (hb : PO π mb pb) : PE π (mBin f ma mb) κ (bin κ f pa pb) := fun σ hm =>
  (ha σ hm).bind fun a p ea => (hb _ (hm.frz ea.2)).bind fun b q eb => by
    have h2 := (hm.frz ea.2).frz eb.2
    rw [ea.1 _ h2, bind_r, eb.1 _ h2, bind_r]
    exact of_rl κ (ea.2.app eb.2) (f a b)
def un (κ : Kd α) (f : DL.D → T R) (pa : T DL.D) : T α := pa.bind fun a => (f a).bind κ.of
theorem pe_un {f : DL.D → T R} {pa : T DL.D} (ha : PO π ma pa) : PE π (mUn f ma) κ (un κ f pa) := fun σ hm =>
  (ha σ hm).bind fun a p ea => by
    rw [ea.1 _ (hm.frz ea.2), bind_r]
    exact of_rl κ ea.2 (f a)
/-! rows of operands -/
theorem looks_of : ∀ {ds : List DL.D} {rs : List R} {σ : DL.Env}, LKs π ds rs → Mat π σ → looks σ rs = .ret ds
  | [], [], _, _, _ => rfl
  | d :: ds, r :: rs, σ, h, hm => by
    show (look σ r).bind (fun d => (looks σ rs).bind fun ds => T.ret (d :: ds)) = _
    rw [h.1 _ hm, looks_of h.2 hm]; rfl
theorem pa_nil : PA π mNil (.ret []) := fun σ _ => .ret ⟨trivial, kept.nil⟩
def con (pa : T DL.D) (ps : T (List DL.D)) : T (List DL.D) := pa.bind fun a => ps.bind fun l => .ret (a :: l)
theorem pa_cons {pa : T DL.D} {ps : T (List DL.D)} (ha : PO π ma pa) (hb : PA π ms ps) : PA π (mCons ma ms) (con pa ps) := fun σ hm =>
  (ha σ hm).bind fun a p ea => (hb _ (hm.frz ea.2)).bind fun b q eb => .ret ⟨⟨ea.1, eb.1⟩, ea.2.app eb.2⟩
theorem pas_nil : PAs π mNil (.ret []) := fun σ _ => .ret ⟨⟨trivial, kept.nil⟩, kept.nil⟩
theorem pas_cons {pa : T DL.D} {ps : T (List DL.D)} (ha : PS π ma pa) (hb : PAs π ms ps) : PAs π (mCons ma ms) (con pa ps) := fun σ hm =>
  (ha σ hm).bind fun a p ea => (hb _ (hm.frz ea.2)).bind fun b q eb => .ret ⟨⟨⟨ea.1.1, eb.1.1⟩, by
    show kept π (slotsAll (p.1 :: q.1))
    unfold slotsAll
    rw [List.flatMap_cons]
    exact ea.1.2.app eb.1.2⟩, ea.2.app eb.2⟩
theorem pa_s {ps : T (List DL.D)} (h : PAs π ms ps) : PA π ms ps := fun σ hm => (h σ hm).mono fun _ _ e => ⟨e.1.1, e.2⟩
def blt (κ : Kd α) (f : List DL.D → T R) (ps : T (List DL.D)) : T α := ps.bind fun l => (f l).bind κ.of
theorem pe_b {f : List DL.D → T R} {ps : T (List DL.D)} (h : PA π ms ps) : PE π (mB f ms) κ (blt κ f ps) := fun σ hm =>
  (h σ hm).bind fun l p e => by
    rw [looks_of e.1 (hm.frz e.2), bind_r]
    exact of_rl κ e.2 (f l)
def tup (ps : T (List DL.D)) : T DL.D := ps.bind fun l => chk l.length (.ret (.tuple l))
def lst (ps : T (List DL.D)) : T (List DL.D) := ps.bind fun l => chk l.length (.ret l)
theorem pe_tup {ps : T (List DL.D)} (h : PAs π ms ps) : PE π (mTup ms) KV (tup ps) := fun σ hm =>
  (h σ hm).bind fun l p e => by
    rw [looks_of e.1.1 (hm.frz e.2), bind_r]
    unfold chk
    split
    · exact .ret ⟨rfl, e.2.app e.1.2⟩
    · exact .stop
theorem pe_lst {ps : T (List DL.D)} (h : PAs π ms ps) : PE π (mLst ms) KL (lst ps) := fun σ hm =>
  (h σ hm).bind fun l p e => by
    rw [looks_of e.1.1 (hm.frz e.2), bind_r]
    unfold chk
    split
    · exact .ret ⟨rfl, e.2.app e.1.2⟩
    · exact .stop
theorem pe_dic0 : PE π mDic0 KK (.ret []) := fun σ _ => .ret ⟨rfl, kept.nil⟩
theorem pe_dic1 {k : Str} {i : Int} : PE π (mDic1 k i) KK (.ret [(.inr k, .int i)]) := fun σ _ => .ret ⟨rfl, kept.nil⟩
/-! and, or, not, if -/
def iteP (pt : T Bool) (pa pb : T α) : T α := pt.bind fun b => if b = true then pa else pb
def andP (pa pb : T Bool) : T Bool := pa.bind fun b => if b = true then pb else .ret false
def orP (pa pb : T Bool) : T Bool := pa.bind fun b => if b = true then .ret true else pb
def notP (pa : T Bool) : T Bool := pa.bind fun b => .ret (!b)
theorem ite_bind {γ δ : Type} {b : Bool} {s t : T γ} {f : γ → T δ} : (if b = true then s else t).bind f = if b = true then s.bind f else t.bind f := by split <;> rfl
theorem pe_if {pt : T Bool} {pa pb : T α} (ht : PTt π mt pt) (ha : PE π ma κ pa) (hb : PE π mb κ pb) : PE π (mIf mt ma mb) κ (iteP pt pa pb) := fun σ hm =>
  (ht σ hm).bind fun b p e => by
    obtain ⟨b', k⟩ := p
    obtain ⟨e1, e2⟩ := e
    have e1 : b' = b := e1
    subst e1
    cases b'
    · exact ((hb _ (hm.frz e2)).bindR fun a q e => .ret ⟨e.1, e2.app e.2⟩)
    · exact ((ha _ (hm.frz e2)).bindR fun a q e => .ret ⟨e.1, e2.app e.2⟩)
theorem ps_if {pt : T Bool} {pa pb : T DL.D} (ht : PTt π mt pt) (ha : PS π ma pa) (hb : PS π mb pb) : PS π (mIf mt ma mb) (iteP pt pa pb) := fun σ hm =>
  (ht σ hm).bind fun b p e => by
    obtain ⟨b', k⟩ := p
    obtain ⟨e1, e2⟩ := e
    have e1 : b' = b := e1
    subst e1
    cases b'
    · exact ((hb _ (hm.frz e2)).bindR fun a q e => .ret ⟨e.1, e2.app e.2⟩)
    · exact ((ha _ (hm.frz e2)).bindR fun a q e => .ret ⟨e.1, e2.app e.2⟩)
theorem pe_and {pa pb : T Bool} (ha : PE π ma KB pa) (hb : PE π mb KB pb) : PE π (mAndV ma mb) KB (andP pa pb) := fun σ hm =>
  (ha σ hm).bind fun b p e => by
    obtain ⟨r, k⟩ := p
    obtain ⟨e1, e2⟩ := e
    have e1 : r = .v (.bool b) := e1
    subst e1
    cases b
    · exact .ret ⟨rfl, e2⟩
    · exact ((hb _ (hm.frz e2)).bindR fun a q e => .ret ⟨e.1, e2.app e.2⟩)
theorem pe_or {pa pb : T Bool} (ha : PE π ma KB pa) (hb : PE π mb KB pb) : PE π (mOrV ma mb) KB (orP pa pb) := fun σ hm =>
  (ha σ hm).bind fun b p e => by
    obtain ⟨r, k⟩ := p
    obtain ⟨e1, e2⟩ := e
    have e1 : r = .v (.bool b) := e1
    subst e1
    cases b
    · exact ((hb _ (hm.frz e2)).bindR fun a q e => .ret ⟨e.1, e2.app e.2⟩)
    · exact .ret ⟨rfl, e2⟩
theorem pe_not {pa : T Bool} (ha : PE π ma KB pa) : PE π (mNotV ma) KB (notP pa) := fun σ hm =>
  (ha σ hm).bind fun b p e => by
    obtain ⟨r, k⟩ := p
    obtain ⟨e1, e2⟩ := e
    have e1 : r = .v (.bool b) := e1
    subst e1
    exact .ret ⟨rfl, e2⟩
theorem pt_of {pa : T Bool} (ha : PE π ma KB pa) : PTt π (tOf ma) pa := fun σ hm =>
  (ha σ hm).bindR fun b p e => by
    obtain ⟨r, k⟩ := p
    obtain ⟨e1, e2⟩ := e
    have e1 : r = .v (.bool b) := e1
    subst e1
    exact .ret ⟨rfl, e2⟩
theorem pt_and {pa pb : T Bool} (ha : PTt π mt pa) (hb : PTt π mu pb) : PTt π (tAndM mt mu) (andP pa pb) := fun σ hm =>
  (ha σ hm).bind fun b p e => by
    obtain ⟨r, k⟩ := p
    obtain ⟨e1, e2⟩ := e
    have e1 : r = b := e1
    subst e1
    cases r
    · exact .ret ⟨rfl, e2⟩
    · exact ((hb _ (hm.frz e2)).bindR fun a q e => .ret ⟨e.1, e2.app e.2⟩)
theorem pt_or {pa pb : T Bool} (ha : PTt π mt pa) (hb : PTt π mu pb) : PTt π (tOrM mt mu) (orP pa pb) := fun σ hm =>
  (ha σ hm).bind fun b p e => by
    obtain ⟨r, k⟩ := p
    obtain ⟨e1, e2⟩ := e
    have e1 : r = b := e1
    subst e1
    cases r
    · exact ((hb _ (hm.frz e2)).bindR fun a q e => .ret ⟨e.1, e2.app e.2⟩)
    · exact .ret ⟨rfl, e2⟩
theorem pt_not {pa : T Bool} (ha : PTt π mt pa) : PTt π (tNotM mt) (notP pa) := fun σ hm =>
  (ha σ hm).bind fun b p e => by
    obtain ⟨r, k⟩ := p
    obtain ⟨e1, e2⟩ := e
    have e1 : r = b := e1
    subst e1
    exact .ret ⟨rfl, e2⟩
theorem pt_yes : PTt π tYesM (.ret true) := fun σ _ => .ret ⟨rfl, kept.nil⟩
def isi (z : String) (pa : T DL.D) : T Bool := pa.bind fun a => .ret (isiD z a)
theorem pe_isi {z : String} {pa : T DL.D} (ha : PO π ma pa) : PE π (mIsi z ma) KB (isi z pa) := fun σ hm =>
  (ha σ hm).bind fun a p e => by
    rw [e.1 _ (hm.frz e.2), bind_r]
    exact .ret ⟨rfl, e.2⟩
/-- a < b < c -/
def cmp2 (f g : DL.D → DL.D → T R) (pa pb pc : T DL.D) : T Bool := pa.bind fun a => pb.bind fun b => ((f a b).bind KB.of).bind fun k => if k = true then pc.bind fun c => (g b c).bind KB.of else .ret false
theorem pe_chain {f g : DL.D → DL.D → T R} {pa pb pc : T DL.D} (ha : PO π ma pa) (hb : PO π mb pb) (hc : PO π mc pc) : PE π (mChain f g ma mb mc) KB (cmp2 f g pa pb pc) := fun σ hm =>
  (ha σ hm).bind fun a p ea => (hb _ (hm.frz ea.2)).bind fun b q eb => by
    have h2 := (hm.frz ea.2).frz eb.2
    rw [ea.1 _ h2, bind_r, eb.1 _ h2, bind_r]
    rw [T.bind_assoc]
    refine (Rl.eq (f a b)).bind fun r r' e => ?_
    subst e
    cases r with
    | v d =>
      cases d with
      | bool k =>
        cases k
        · exact .ret ⟨rfl, ea.2.app eb.2⟩
        · refine (hc _ h2).bind fun c t ec => ?_
          have h3 := h2.frz ec.2
          rw [eb.1 _ h3, bind_r, ec.1 _ h3, bind_r]
          exact of_rl KB ((ea.2.app eb.2).app ec.2) (g b c)
      | _ => exact .stop
    | _ => exact .stop
/-! slices -/
def asI : DL.D → T (Option Int)
  | .int i => .ret (some i)
  | _ => .stop
theorem pp_none : PP π oNone (.ret none) := fun σ _ => .ret ⟨rfl, kept.nil⟩
theorem pp_some {pa : T DL.D} (ha : PE π ma KV pa) : PP π (oSome ma) (pa.bind asI) := fun σ hm =>
  (ha σ hm).bind fun a p e => by
    obtain ⟨r, k⟩ := p
    obtain ⟨e1, e2⟩ := e
    have e1 : r = .v a := e1
    subst e1
    cases a with
    | int i => exact .ret ⟨rfl, e2⟩
    | _ => exact .stop
def sl (κ : Kd α) (pa : T DL.D) (lo hi : T (Option Int)) : T α := pa.bind fun a => lo.bind fun l => hi.bind fun h => (dSl a l h).bind κ.of
theorem pe_sl {pa : T DL.D} {lo hi : MO} {pl ph : T (Option Int)} (ha : PO π ma pa) (hl : PP π lo pl) (hh : PP π hi ph) : PE π (mSl ma lo hi) κ (sl κ pa pl ph) := fun σ hm =>
  (ha σ hm).bind fun a p ea => (hl _ (hm.frz ea.2)).bind fun l q eq => by
    have k2 := ea.2.app eq.2
    refine (hh _ (hm.frz k2)).bind fun h t et => ?_
    obtain ⟨l', ql⟩ := q
    obtain ⟨h', th⟩ := t
    have e1 : l' = l := eq.1
    have e2 : h' = h := et.1
    subst e1 e2
    have k3 := k2.app et.2
    rw [ea.1 _ (hm.frz k3), bind_r]
    exact of_rl κ k3 (dSl a l' h')
/-! what is walked -/
def items (pa : T DL.D) : T (List DL.D) := pa.bind itemsOf
theorem pi_seq {pa : T DL.D} (ha : PS π ma pa) : PI π (iSeq ma) (items pa) := fun σ hm =>
  (ha σ hm).bind fun a p e => by
    rw [e.1.1 _ (hm.frz e.2), bind_r]
    exact (Rl.eq (itemsOf a)).bindR fun ds ds' h => by subst h; exact .ret ⟨rfl, e.2.app e.1.2⟩
theorem pi_rng {f : List DL.D → T (List DL.D)} {ps : T (List DL.D)} (h : PA π ms ps) : PI π (iRngM f ms) (ps.bind f) := fun σ hm =>
  (h σ hm).bind fun l p e => by
    rw [looks_of e.1 (hm.frz e.2), bind_r]
    exact (Rl.eq (f l)).bindR fun ds ds' h => by subst h; exact .ret ⟨rfl, e.2⟩
theorem pi_zip {ps : T (List DL.D)} (h : PAs π ms ps) : PI π (iZipM ms) (ps.bind zipD) := fun σ hm =>
  (h σ hm).bind fun l p e => by
    rw [looks_of e.1.1 (hm.frz e.2), bind_r]
    exact (Rl.eq (zipD l)).bindR fun ds ds' h => by subst h; exact .ret ⟨rfl, e.2.app e.1.2⟩
end
end PL

namespace PL
open PySem PySem.Spec PyProof.Rows L2 DL
section
variable {α β S S1 S2 : Type} {κ : Kd α} {κ' : Kd β} {π π' : List Pt} {m ma mb mc : M} {mt mu : MT} {ms : MA} {d : DL.D} {i j : Nat} {p : T α}
/-! ### calls -/
theorem argOf_s {σ : DL.Env} {i : Nat} : argOf σ (.s i) = match σ[i]? with | some (.o .pool) => .ret (.o .pool) | _ => (look σ (.s i)).bind fun d => .ret (.v d) := rfl
theorem argOf_of {r : R} (h : LK π d r) {σ : DL.Env} (hm : Mat π σ) : argOf σ r = .ret (.v d) := by
  have e := h σ hm
  cases r with
  | v x => cases e; rfl
  | o x => show (O.d x).bind _ = _; rw [show O.d x = .ret d from e]; rfl
  | s i =>
    rw [argOf_s]
    split
    · rename_i h2; rw [look_s, h2] at e; cases e
    · rw [e]; rfl
theorem argsOf_of : ∀ {ds : List DL.D} {rs : List R} {σ : DL.Env}, LKs π ds rs → Mat π σ → argsOf σ rs = .ret (ds.map Sl.v)
  | [], [], _, _, _ => rfl
  | d :: ds, r :: rs, σ, h, hm => by
    show (argOf σ r).bind (fun a => (argsOf σ rs).bind fun l => .ret (a :: l)) = _
    rw [argOf_of h.1 hm, argsOf_of h.2 hm]; rfl
theorem pools_v (l : List DL.D) : pools (l.map Sl.v) = 0 := by
  induction l with
  | nil => rfl
  | cons a l ih => exact ih
theorem one_le {γ : Type} {sl : List Sl} {t : T γ} (h : pools sl ≤ 1) : one sl t = t := if_pos h
def call (pf : List DL.D → T α) (ps : T (List DL.D)) : T α := ps.bind pf
theorem pe_call {pf : List DL.D → T α} {mf : List Sl → T R} {ps : T (List DL.D)} (F : ∀ l, Rl κ.rel (pf l) (mf (l.map Sl.v))) (h : PAs π ms ps) : PE π (mCall mf ms) κ (call pf ps) := fun σ hm =>
  (h σ hm).bind fun l q e => by
    rw [argsOf_of e.1.1 (hm.frz e.2), bind_r, one_le (by rw [pools_v]; decide)]
    refine (F l).bindR fun a r hr => .ret ⟨hr, ?_⟩
    show kept π (if r.atom = true then q.2 else q.2 ++ slotsAll q.1)
    split
    · exact e.2
    · exact e.2.app e.1.2
theorem pe_callP {pf : List DL.D → T α} {mf : List Sl → T R} {ps : T (List DL.D)} (hp : π[i]? = some .pool) (F : ∀ l, Rl κ.rel (pf l) (mf (.o .pool :: l.map Sl.v))) (h : PAs π ms ps) : PE π (mCall mf (mCons (mVar i) ms)) κ (call pf ps) := fun σ hm => by
  obtain ⟨s, h1, h2⟩ := hm.get hp
  cases h2
  have hv : mVar i σ = .ret (.s i, []) := by unfold mVar; rw [h1]
  show Rl _ _ (((mVar i σ).bind fun p => (ms (frz σ p.2)).bind fun q => T.ret (p.1 :: q.1, p.2 ++ q.2)).bind _)
  rw [hv, bind_r, frz_nil, T.bind_assoc]
  refine (h σ hm).bind fun l q e => ?_
  rw [bind_r]
  have hm' := hm.frz e.2
  obtain ⟨s, h1', h2⟩ := hm'.get hp
  cases h2
  have ha : argsOf (frz σ ([] ++ q.2)) (.s i :: q.1) = .ret (.o .pool :: l.map Sl.v) := by
    show (argOf (frz σ q.2) (.s i)).bind (fun a => (argsOf (frz σ q.2) q.1).bind fun l => .ret (a :: l)) = _
    have : argOf (frz σ q.2) (.s i) = .ret (.o .pool) := by rw [argOf_s, h1']
    rw [this, argsOf_of e.1.1 hm']; rfl
  rw [ha, bind_r, one_le (by show pools (l.map Sl.v) + 1 ≤ 1; rw [pools_v]; decide)]
  refine (F l).bindR fun a r hr => .ret ⟨hr, ?_⟩
  show kept π (if r.atom = true then q.2 else q.2 ++ slotsAll (.s i :: q.1))
  split
  · exact e.2
  · refine e.2.app ?_
    show kept π (i :: slotsAll q.1)
    intro j hj p hp'
    rcases List.mem_cons.mp hj with rfl | hj
    · rw [hp] at hp'; cases hp'; rfl
    · exact e.1.2 j hj p hp'
def ap0 (p : T α) : List DL.D → T α
  | [] => p
  | _ => .stop
def ap1 (p : DL.D → T α) : List DL.D → T α
  | [a] => p a
  | _ => .stop
def ap2 (p : DL.D → DL.D → T α) : List DL.D → T α
  | [a, b] => p a b
  | _ => .stop
def ap3 (p : DL.D → DL.D → DL.D → T α) : List DL.D → T α
  | [a, b, c] => p a b c
  | _ => .stop
def ap4 (p : DL.D → DL.D → DL.D → DL.D → T α) : List DL.D → T α
  | [a, b, c, d] => p a b c d
  | _ => .stop
def ap5 (p : DL.D → DL.D → DL.D → DL.D → DL.D → T α) : List DL.D → T α
  | [a, b, c, d, e] => p a b c d e
  | _ => .stop
def ap6 (p : DL.D → DL.D → DL.D → DL.D → DL.D → DL.D → T α) : List DL.D → T α
  | [a, b, c, d, e, f] => p a b c d e f
  | _ => .stop
variable {mf : List Sl → T R}
theorem rl0 {p : T α} (h : Rl κ.rel p (mf [])) : ∀ l, Rl κ.rel (ap0 p l) (mf (l.map Sl.v))
  | [] => h
  | _ :: _ => .stop
theorem rl1 {p : DL.D → T α} (h : ∀ a, Rl κ.rel (p a) (mf [.v a])) : ∀ l, Rl κ.rel (ap1 p l) (mf (l.map Sl.v))
  | [a] => h a
  | [] => .stop
  | _ :: _ :: _ => .stop
theorem rl2 {p : DL.D → DL.D → T α} (h : ∀ a b, Rl κ.rel (p a b) (mf [.v a, .v b])) : ∀ l, Rl κ.rel (ap2 p l) (mf (l.map Sl.v))
  | [a, b] => h a b
  | [] => .stop
  | [_] => .stop
  | _ :: _ :: _ :: _ => .stop
theorem rl3 {p : DL.D → DL.D → DL.D → T α} (h : ∀ a b c, Rl κ.rel (p a b c) (mf [.v a, .v b, .v c])) : ∀ l, Rl κ.rel (ap3 p l) (mf (l.map Sl.v))
  | [a, b, c] => h a b c
  | [] => .stop
  | [_] => .stop
  | [_, _] => .stop
  | _ :: _ :: _ :: _ :: _ => .stop
theorem rl4 {p : DL.D → DL.D → DL.D → DL.D → T α} (h : ∀ a b c d, Rl κ.rel (p a b c d) (mf [.v a, .v b, .v c, .v d])) : ∀ l, Rl κ.rel (ap4 p l) (mf (l.map Sl.v))
  | [a, b, c, d] => h a b c d
  | [] => .stop
  | [_] => .stop
  | [_, _] => .stop
  | [_, _, _] => .stop
  | _ :: _ :: _ :: _ :: _ :: _ => .stop
theorem rl5 {p : DL.D → DL.D → DL.D → DL.D → DL.D → T α} (h : ∀ a b c d e, Rl κ.rel (p a b c d e) (mf [.v a, .v b, .v c, .v d, .v e])) : ∀ l, Rl κ.rel (ap5 p l) (mf (l.map Sl.v))
  | [a, b, c, d, e] => h a b c d e
  | [] => .stop
  | [_] => .stop
  | [_, _] => .stop
  | [_, _, _] => .stop
  | [_, _, _, _] => .stop
  | _ :: _ :: _ :: _ :: _ :: _ :: _ => .stop
theorem rl6 {p : DL.D → DL.D → DL.D → DL.D → DL.D → DL.D → T α} (h : ∀ a b c d e f, Rl κ.rel (p a b c d e f) (mf [.v a, .v b, .v c, .v d, .v e, .v f])) : ∀ l, Rl κ.rel (ap6 p l) (mf (l.map Sl.v))
  | [a, b, c, d, e, f] => h a b c d e f
  | [] => .stop
  | [_] => .stop
  | [_, _] => .stop
  | [_, _, _] => .stop
  | [_, _, _, _] => .stop
  | [_, _, _, _, _] => .stop
  | _ :: _ :: _ :: _ :: _ :: _ :: _ :: _ => .stop
theorem rp0 {p : T α} (h : Rl κ.rel p (mf [.o .pool])) : ∀ l, Rl κ.rel (ap0 p l) (mf (.o .pool :: l.map Sl.v))
  | [] => h
  | _ :: _ => .stop
theorem rp1 {p : DL.D → T α} (h : ∀ a, Rl κ.rel (p a) (mf [.o .pool, .v a])) : ∀ l, Rl κ.rel (ap1 p l) (mf (.o .pool :: l.map Sl.v))
  | [a] => h a
  | [] => .stop
  | _ :: _ :: _ => .stop
theorem rp2 {p : DL.D → DL.D → T α} (h : ∀ a b, Rl κ.rel (p a b) (mf [.o .pool, .v a, .v b])) : ∀ l, Rl κ.rel (ap2 p l) (mf (.o .pool :: l.map Sl.v))
  | [a, b] => h a b
  | [] => .stop
  | [_] => .stop
  | _ :: _ :: _ :: _ => .stop
theorem rp3 {p : DL.D → DL.D → DL.D → T α} (h : ∀ a b c, Rl κ.rel (p a b c) (mf [.o .pool, .v a, .v b, .v c])) : ∀ l, Rl κ.rel (ap3 p l) (mf (.o .pool :: l.map Sl.v))
  | [a, b, c] => h a b c
  | [] => .stop
  | [_] => .stop
  | [_, _] => .stop
  | _ :: _ :: _ :: _ :: _ => .stop
theorem rp4 {p : DL.D → DL.D → DL.D → DL.D → T α} (h : ∀ a b c d, Rl κ.rel (p a b c d) (mf [.o .pool, .v a, .v b, .v c, .v d])) : ∀ l, Rl κ.rel (ap4 p l) (mf (.o .pool :: l.map Sl.v))
  | [a, b, c, d] => h a b c d
  | [] => .stop
  | [_] => .stop
  | [_, _] => .stop
  | [_, _, _] => .stop
  | _ :: _ :: _ :: _ :: _ :: _ => .stop
/-! ### targets -/
def PGt (π : List Pt) (g : MG) (F : DL.D → T S) (po : S → List Pt) : Prop := ∀ d σ, Mat π σ → Rl (fun s σ' => Mat (po s) σ') (F d) (g d σ)
def PGs (π : List Pt) (g : MGs) (F : List DL.D → T S) (po : S → List Pt) : Prop := ∀ d σ, Mat π σ → Rl (fun s σ' => Mat (po s) σ') (F d) (g d σ)
def wrP (π : List Pt) (i : Nat) : Bool := match π[i]? with | some p => p.wr | none => false
theorem wrP_get (h : wrP π i = true) {σ : DL.Env} (hm : Mat π σ) : ∃ s, σ[i]? = some s ∧ DL.wr s = true := by
  unfold wrP at h
  split at h
  · rename_i p hp
    obtain ⟨s, h1, h2⟩ := hm.get hp
    exact ⟨s, h1, h2.wrs h⟩
  · cases h
def tgV : DL.D → T DL.D := fun d => .ret d
def tgO (F : DL.D → T S) : List DL.D → T S
  | [d] => F d
  | _ => .stop
def tgC (F : DL.D → T S) (G : List DL.D → T S1) : List DL.D → T (S × S1)
  | d :: r => (F d).bind fun s => (G r).bind fun t => .ret (s, t)
  | [] => .stop
def tgT (n : Nat) (F : List DL.D → T S) : DL.D → T S
  | .tuple ds => if ds.length = n then F ds else .stop
  | _ => .stop
theorem gSet_eq {σ : DL.Env} {s : Sl} (h : σ[i]? = some s) (w : DL.wr s = true) : gSet i d σ = .ret (σ.set i (.v d)) := by
  unfold gSet
  rw [h]
  cases s with
  | o x => cases x <;> first | rfl | cases w
  | _ => rfl
theorem pg_set (h : wrP π i = true) : PGt π (gSet i) tgV (fun d => π.set i (.v d)) := fun d σ hm => by
  obtain ⟨s, h1, h2⟩ := wrP_get h hm
  rw [gSet_eq h1 h2]
  exact .ret (hm.set i (.v d))
theorem pgs_one {g : MG} {F : DL.D → T S} {po : S → List Pt} (h : PGt π g F po) : PGs π (gsCons g gsNil) (tgO F) po := fun ds σ hm => by
  cases ds with
  | nil => exact .stop
  | cons d r =>
    cases r with
    | nil =>
      show Rl _ (F d) ((g d σ).bind fun σ1 => .ret σ1)
      rw [show ((g d σ).bind fun σ1 => T.ret σ1) = g d σ from T.bind_id _]
      exact h d σ hm
    | cons _ _ => exact .stop
theorem pgs_cons {g : MG} {gs : MGs} {F : DL.D → T S} {G : List DL.D → T S1} {po1 : S → List Pt} {po2 : S → S1 → List Pt} (h : PGt π g F po1) (h2 : ∀ s, PGs (po1 s) gs G (po2 s)) : PGs π (gsCons g gs) (tgC F G) (fun s => po2 s.1 s.2) := fun ds σ hm => by
  cases ds with
  | nil => exact .stop
  | cons d r =>
    refine (h d σ hm).bind fun s σ1 e => ?_
    rw [show gs r σ1 = (gs r σ1).bind .ret from (T.bind_id _).symm]
    exact (h2 s r σ1 e).bind fun t σ2 e2 => .ret e2
theorem pg_tup {n : Nat} {gs : MGs} {F : List DL.D → T S} {po : S → List Pt} (h : PGs π gs F po) : PGt π (gTupM n gs) (tgT n F) po := fun d σ hm => by
  cases d with
  | tuple ds =>
    show Rl _ (if ds.length = n then F ds else .stop) (if ds.length = n then gs ds σ else .stop)
    split
    · exact h ds σ hm
    · exact .stop
  | _ => exact .stop
/-! ### [e for x in l if c] -/
def wipeP (π : List Pt) (vs : List Nat) : List Pt := vs.foldl (fun π i => π.set i .any) π
theorem wipe_mat {σ : DL.Env} (hm : Mat π σ) : ∀ (vs : List Nat), Mat (wipeP π vs) (mwipe σ vs) := by
  intro vs
  induction vs generalizing π σ with
  | nil => exact hm
  | cons i vs ih => exact ih (hm.set i .anyU)
theorem wipeP_out {vs : List Nat} (h : i ∉ vs) : (wipeP π vs)[i]? = π[i]? := by
  induction vs generalizing π with
  | nil => rfl
  | cons j vs ih =>
    have h1 : i ≠ j := fun z => h (by rw [z]; exact List.mem_cons_self ..)
    have h2 : i ∉ vs := fun z => h (List.mem_cons_of_mem _ z)
    show (wipeP (π.set j .any) vs)[i]? = _
    rw [ih h2, List.getElem?_set_ne (Ne.symm h1)]
def each {ι : Type} (F : ι → T S) (t : S → T Bool) (e : S → T DL.D) : List ι → T (List DL.D)
  | [] => .ret []
  | d :: ds => (F d).bind fun s => (t s).bind fun b => if b = true then (e s).bind fun y => (each F t e ds).bind fun l => .ret (y :: l) else each F t e ds
def lcP (F : DL.D → T S) (t : S → T Bool) (e : S → T DL.D) (pi : T (List DL.D)) : T (List DL.D) := pi.bind fun ds => chk ds.length (each F t e ds)
theorem pe_lc {mi : MI} {g : MG} {vs : List Nat} {pi : T (List DL.D)} {F : DL.D → T S} {po : S → List Pt} {t : S → T Bool} {e : S → T DL.D} (hi : PI π mi pi) (hg : PGt (wipeP π vs) g F po) (ht : ∀ s, PTt (po s) mt (t s)) (he : ∀ s, PS (po s) m (e s)) (hw : ∀ s, wipeP (po s) vs = wipeP π vs) :
    PE π (mLc mi g mt m vs) KL (lcP F t e pi) := by
  have kp : ∀ {s : S} {k : List Nat}, kept (po s) k → ∀ i ∈ k, i ∉ vs → ∀ p, π[i]? = some p → p.own = false := fun {s k} h i hi hv p hp => by
    refine h i hi p ?_
    rw [← hp, ← wipeP_out (π := π) hv, ← hw s, wipeP_out hv]
  have go : ∀ (ds : List DL.D) (σ : DL.Env), Mat (wipeP π vs) σ → Rl (fun l (z : List DL.D × List Nat) => z.1 = l ∧ ∀ i ∈ z.2, i ∉ vs → ∀ p, π[i]? = some p → p.own = false) (each F t e ds) (mLcGo g mt m vs ds σ) := by
    intro ds
    induction ds with
    | nil => intro σ _; exact .ret ⟨rfl, fun _ z => nomatch z⟩
    | cons d ds ih =>
      intro σ hm
      refine (hg d σ hm).bind fun s σ1 h1 => (ht s σ1 h1).bind fun b q hq => ?_
      obtain ⟨b', k⟩ := q
      obtain ⟨e1, k1⟩ := hq
      have e1 : b' = b := e1
      have k1 : kept (po s) k := k1
      subst e1
      have h2 := h1.frz k1
      cases b'
      · have w := wipe_mat h2 vs
        rw [hw s] at w
        refine (ih _ w).bindR fun l z hz => .ret ⟨hz.1, fun i hi => ?_⟩
        rcases List.mem_append.mp hi with hi | hi
        · exact kp k1 i hi
        · exact hz.2 i hi
      · refine (he s _ h2).bind fun y q hq => ?_
        have h3 := h2.frz hq.2
        rw [hq.1.1 _ h3, bind_r]
        have k2 : kept (po s) (k ++ (q.2 ++ slotsOf q.1)) := k1.app (hq.2.app hq.1.2)
        have w := wipe_mat (h1.frz k2) vs
        rw [hw s] at w
        refine (ih _ w).bind fun l z hz => .ret ⟨by rw [hz.1], fun i hi => ?_⟩
        rcases List.mem_append.mp hi with hi | hi
        · exact kp k2 i hi
        · exact hz.2 i hi
  intro σ hm
  refine (hi σ hm).bind fun ds q hq => ?_
  obtain ⟨ds', k⟩ := q
  obtain ⟨e1, k1⟩ := hq
  have e1 : ds' = ds := e1
  have k1 : kept π k := k1
  subst e1
  show Rl _ (chk ds'.length _) (chk ds'.length _)
  unfold chk
  split
  · refine (go ds' _ (wipe_mat (hm.frz k1) vs)).bindR fun l z hz => .ret ⟨by rw [hz.1]; rfl, k1.app fun i hi p hp => ?_⟩
    have hi' := List.mem_filter.mp hi
    exact hz.2 i hi'.1 (by simpa using hi'.2) p hp
  · exact .stop
end
end PL

namespace PL
open PySem PySem.Spec PyProof.Rows L2 DL
/-! ### blocks -/
inductive Ct (S1 S ρ : Type) where
  | nx (s : S1)
  | bk (s : S)
  | ct (s : S)
  | rt (x : ρ)
inductive CtR {S1 S ρ : Type} (κ : Kd ρ) (po1 : S1 → List Pt) (po : S → List Pt) : Ct S1 S ρ → Fl × DL.Env → Prop
  | nx {s : S1} {σ : DL.Env} : Mat (po1 s) σ → CtR κ po1 po (.nx s) (.nx, σ)
  | bk {s : S} {σ : DL.Env} : Mat (po s) σ → CtR κ po1 po (.bk s) (.bk, σ)
  | ct {s : S} {σ : DL.Env} : Mat (po s) σ → CtR κ po1 po (.ct s) (.ct, σ)
  | rt {x : ρ} {r : R} {σ : DL.Env} : κ.rel x r → CtR κ po1 po (.rt x) (.rt r, σ)
/-- it always returns -/
def PR {α : Type} (π : List Pt) (B : MS) (κ : Kd α) (p : T α) : Prop := ∀ σ, Mat π σ → Rl (fun x (q : Fl × DL.Env) => ∃ r, q.1 = .rt r ∧ κ.rel x r) p (B σ)
/-- it always goes on -/
def PN {S : Type} (π : List Pt) (B : MS) (p : T S) (po : S → List Pt) : Prop := ∀ σ, Mat π σ → Rl (fun s (q : Fl × DL.Env) => q.1 = .nx ∧ Mat (po s) q.2) p (B σ)
/-- it does any of these -/
def PB {S1 S ρ : Type} (π : List Pt) (B : MS) (κ : Kd ρ) (p : T (Ct S1 S ρ)) (po1 : S1 → List Pt) (po : S → List Pt) : Prop := ∀ σ, Mat π σ → Rl (CtR κ po1 po) p (B σ)
section
variable {α β S S' S1 S2 ρ : Type} {κ : Kd α} {κr : Kd ρ} {π π' : List Pt} {m ma mb mc : M} {mt mu : MT} {ms : MA} {d : DL.D} {i j : Nat} {p : T α} {A B C : MS} {po : S → List Pt} {po1 : S1 → List Pt} {po2 : S2 → List Pt} {pt : T Bool}
/-! what changes nothing -/
theorem pr_sub {p : T α} (h : Sub π π') (q : PR π' B κ p) : PR π B κ p := fun σ hm => q σ (h.mat hm)
theorem pn_sub {p : T S} (h : Sub π π') (q : PN π' B p po) : PN π B p po := fun σ hm => q σ (h.mat hm)
theorem pb_sub {p : T (Ct S1 S ρ)} (h : Sub π π') (q : PB π' B κr p po1 po) : PB π B κr p po1 po := fun σ hm => q σ (h.mat hm)
/-! return -/
theorem retOf_s {σ : DL.Env} {i : Nat} : retOf σ (.s i) = match σ[i]? with | some (.v d) => .ret (.rt (.v d), σ) | some (.o .pool) => .stop | some (.o x) => .ret (.rt (.o x), σ.set i .u) | _ => .stop := rfl
theorem slR_ret {r : R} {s : Sl} (h : slR r = some s) (σ : DL.Env) : retOf σ r = .ret (.rt r, σ) := by
  cases r with
  | s _ => cases h
  | _ => rfl
theorem pr_ret {p : T α} (h : PE π m κ p) : PR π (sRet m) κ p := fun σ hm =>
  (h σ hm).bindR fun a q e => by
    obtain ⟨s, hs, _⟩ := κ.st e.1
    rw [slR_ret hs]
    exact .ret ⟨_, rfl, e.1⟩
theorem pr_retS {p : T DL.D} (h : PS π m p) : PR π (sRet m) KF p := fun σ hm =>
  (h σ hm).bindR fun a q e => by
    have hk := e.1.1 _ (hm.frz e.2)
    obtain ⟨r, k⟩ := q
    cases r with
    | v x => cases hk; exact .ret ⟨_, rfl, .inl rfl⟩
    | o x =>
      have hk : O.d x = .ret a := hk
      unfold O.d at hk
      refine .ret ⟨_, rfl, .inr ⟨x, rfl, ?_⟩⟩
      split at hk
      · rename_i h1; rw [h1]; cases hk; rfl
      · cases hk
    | s i =>
      have hk : look (frz σ k) (.s i) = .ret a := hk
      show Rl _ _ (retOf (frz σ k) (.s i))
      rw [look_s] at hk
      rw [retOf_s]
      split at hk
      · rename_i h1; rw [h1]; cases hk; exact .ret ⟨_, rfl, .inl rfl⟩
      · rename_i x h1
        rw [h1]
        unfold O.d at hk
        split at hk
        · rename_i h2
          cases hk
          cases x with
          | pool => cases h2
          | lst l => exact .ret ⟨_, rfl, .inr ⟨_, rfl, h2⟩⟩
          | dic l => exact .ret ⟨_, rfl, .inr ⟨_, rfl, h2⟩⟩
          | rng _ _ => cases h2
          | bor a l => exact .ret ⟨_, rfl, .inr ⟨_, rfl, h2⟩⟩
        · cases hk
      · cases hk
theorem pr_retL {ds : List DL.D} (e : π[i]? = some (.l ds)) : PR π (sRet (mVar i)) KL (.ret ds) := fun σ hm => by
  obtain ⟨s, h1, h2⟩ := hm.get e
  cases h2
  have hv : mVar i σ = .ret (.s i, []) := by unfold mVar; rw [h1]
  unfold sRet
  rw [hv, bind_r, frz_nil]
  show Rl _ _ (retOf σ (.s i))
  rw [retOf_s, h1]
  exact .ret ⟨_, rfl, rfl⟩
theorem pr_retK {ds : List (Key × DL.D)} (e : π[i]? = some (.k ds)) : PR π (sRet (mVar i)) KK (.ret ds) := fun σ hm => by
  obtain ⟨s, h1, h2⟩ := hm.get e
  cases h2
  have hv : mVar i σ = .ret (.s i, []) := by unfold mVar; rw [h1]
  unfold sRet
  rw [hv, bind_r, frz_nil]
  show Rl _ _ (retOf σ (.s i))
  rw [retOf_s, h1]
  exact .ret ⟨_, rfl, rfl⟩
theorem pr_retN : PR π sRetN KV (.ret .none) := fun σ hm => .ret ⟨_, rfl, rfl⟩
theorem pr_retNF : PR π sRetN KF (.ret .none) := fun σ hm => .ret ⟨_, rfl, .inl rfl⟩
/-! x = e -/
theorem stor_of {r : R} {s : Sl} {σ : DL.Env} {s0 : Sl} (h : slR r = some s) (h0 : σ[i]? = some s0) (w : DL.wr s0 = true) : stor i σ r = .ret (.nx, σ.set i s) := by
  unfold stor
  rw [h0]
  cases r with
  | s _ => cases h
  | v d =>
    cases h
    cases s0 with
    | o x => cases x <;> first | rfl | cases w
    | _ => rfl
  | o x =>
    cases h
    cases s0 with
    | o y => cases y <;> first | rfl | cases w
    | _ => rfl
theorem pn_set {p : T α} (h : PE π m κ p) (w : wrP π i = true) : PN π (sSet i m) p (fun a => π.set i (κ.pt a)) := fun σ hm =>
  (h σ hm).bindR fun a q e => by
    have hm' := hm.frz e.2
    obtain ⟨s, hs, hp⟩ := κ.st e.1
    obtain ⟨s0, h0, hw⟩ := wrP_get w hm'
    rw [stor_of hs h0 hw]
    exact .ret ⟨rfl, hm'.set i hp⟩
theorem pn_setS {p : T DL.D} (h : PS π m p) (w : wrP π i = true) : PN π (sSet i m) p (fun d => π.set i (.f d)) := fun σ hm =>
  (h σ hm).bindR fun a q e => by
    have hm' := hm.frz e.2
    obtain ⟨s0, h0, hw⟩ := wrP_get w hm'
    have hk := e.1.1 _ hm'
    obtain ⟨r, k⟩ := q
    cases r with
    | v x => cases hk; rw [stor_of rfl h0 hw]; exact .ret ⟨rfl, hm'.set i (.fv _)⟩
    | o x =>
      rw [stor_of rfl h0 hw]
      refine .ret ⟨rfl, hm'.set i (.fo x a ?_)⟩
      have hk : O.d x = .ret a := hk
      unfold O.d at hk
      split at hk
      · rename_i h1; rw [h1]; cases hk; rfl
      · cases hk
    | s j =>
      have e2 : stor i (frz σ k) (.s j) = .ret (.nx, (frz1 (frz σ k) j).set i (.v a)) := by
        unfold stor
        have hk : look (frz σ k) (.s j) = .ret a := hk
        rw [h0]
        cases s0 with
        | o y => cases y <;> first | (show (look (frz σ k) (.s j)).bind _ = _; rw [hk]; rfl) | cases hw
        | _ => show (look (frz σ k) (.s j)).bind _ = _; rw [hk]; rfl
      show Rl _ _ (stor i (frz σ k) (.s j))
      rw [e2]
      exact .ret ⟨rfl, (hm'.frz1 (e.1.2 j (List.mem_singleton.mpr rfl))).set i (.fv _)⟩
theorem pn_asg {g : MG} {p : T DL.D} {F : DL.D → T S} (h : PS π m p) (hg : PGt π g F po) : PN π (sAsg g m) (p.bind F) po := fun σ hm =>
  (h σ hm).bind fun a q e => by
    have hm' := hm.frz e.2
    rw [e.1.1 _ hm', bind_r]
    exact (hg a _ (hm'.frz e.1.2)).bindR fun s σ' h => .ret ⟨rfl, h⟩
theorem pn_par {p : T (List DL.D)} {F : List DL.D → T S} (h : PAs π ms p) (hg : PGs π (gsCons (gSet i) (gsCons (gSet j) gsNil)) F po) : PN π (sPar i j ms) (p.bind F) po := fun σ hm =>
  (h σ hm).bind fun a q e => by
    have hm' := hm.frz e.2
    rw [looks_of e.1.1 hm', bind_r]
    exact (hg a _ (hm'.frz e.1.2)).bindR fun s σ' h => .ret ⟨rfl, h⟩
def aug (f : Int → Int → Int) (d : DL.D) (p : T DL.D) : T DL.D := p.bind fun e => (intOp f d e).bind KV.of
theorem pn_aug {f : Int → Int → Int} {p : T DL.D} (e : π[i]? = some (.v d)) (h : PO π m p) : PN π (sAug i (intOp f) m) (aug f d p) (fun a => π.set i (.v a)) := fun σ hm => by
  obtain ⟨s, h1, h2⟩ := hm.get e
  cases h2
  unfold sAug
  rw [h1]
  show Rl _ _ ((m σ).bind _)
  refine (h σ hm).bind fun a q e' => ?_
  have hm' := hm.frz e'.2
  rw [e'.1 _ hm', bind_r]
  refine (Rl.eq (intOp f d a)).bind fun r r' er => ?_
  subst er
  obtain ⟨s, h1, h2⟩ := hm'.get e
  cases h2
  have := KV.fo r
  rw [show stor i (frz σ q.2) r = (T.ret r).bind (stor i (frz σ q.2)) from rfl]
  exact this.bindR fun b c hb => by
    rw [hb, stor_of rfl h1 rfl]
    exact .ret ⟨rfl, hm'.set i (.v _)⟩
def appP (ds : List DL.D) (p : T DL.D) : T (List DL.D) := p.bind fun d => chk (ds.length + 1) (.ret (ds ++ [d]))
theorem pn_app {ds : List DL.D} {p : T DL.D} (e : π[i]? = some (.l ds)) (h : PS π m p) : PN π (sApp i m) (appP ds p) (fun l => π.set i (.l l)) := fun σ hm => by
  obtain ⟨s, h1, h2⟩ := hm.get e
  cases h2
  have o1 : ownL σ i = .ret ds := by unfold ownL; rw [h1]
  unfold sApp
  rw [o1, bind_r]
  refine (h σ hm).bind fun a q e' => ?_
  have hm' := hm.frz e'.2
  rw [e'.1.1 _ hm', bind_r]
  have hm2 := hm'.frz e'.1.2
  obtain ⟨s, h1, h2⟩ := hm2.get e
  cases h2
  have o2 : ownL (frz (frz σ q.2) (slotsOf q.1)) i = .ret ds := by unfold ownL; rw [h1]
  rw [o2, bind_r]
  unfold chk
  split
  · exact .ret ⟨rfl, hm2.set i (.l _)⟩
  · exact .stop
def putP (ds : List DL.D) (p pk : T DL.D) : T (List DL.D) := p.bind fun d => pk.bind fun k => match k with
  | .int k => (match ixN ds.length k with | some j => .ret (ds.set j d) | none => .stop)
  | _ => .stop
theorem pn_put {ds : List DL.D} {p pk : T DL.D} {mk : M} (e : π[i]? = some (.l ds)) (h : PS π m p) (hk : PO π mk pk) : PN π (sPut i mk m) (putP ds p pk) (fun l => π.set i (.l l)) := fun σ hm => by
  unfold sPut
  refine (h σ hm).bind fun a q e' => ?_
  have hm' := hm.frz e'.2
  rw [e'.1.1 _ hm', bind_r]
  have hm2 := hm'.frz e'.1.2
  obtain ⟨s, h1, h2⟩ := hm2.get e
  cases h2
  have o2 : ownL (frz (frz σ q.2) (slotsOf q.1)) i = .ret ds := by unfold ownL; rw [h1]
  rw [o2, bind_r]
  refine (hk _ hm2).bind fun k t et => ?_
  have hm3 := hm2.frz et.2
  rw [et.1 _ hm3, bind_r]
  cases k with
  | int k =>
    obtain ⟨s, h1, h2⟩ := hm3.get e
    cases h2
    have o3 : ownL (frz (frz (frz σ q.2) (slotsOf q.1)) t.2) i = .ret ds := by unfold ownL; rw [h1]
    show Rl _ (match ixN ds.length k with | some j => .ret (ds.set j a) | none => .stop) ((ownL (frz (frz (frz σ q.2) (slotsOf q.1)) t.2) i).bind _)
    rw [o3, bind_r]
    show Rl (fun l (q : Fl × DL.Env) => q.1 = .nx ∧ Mat (π.set i (.l l)) q.2) (match ixN ds.length k with | some j => .ret (ds.set j a) | none => .stop) (match ixN ds.length k with | some j => .ret (.nx, (frz (frz (frz σ q.2) (slotsOf q.1)) t.2).set i (.o (.lst (ds.set j a)))) | none => .stop)
    cases ixN ds.length k with
    | some j => exact .ret ⟨rfl, hm3.set i (.l _)⟩
    | none => exact .stop
  | _ => exact .stop
theorem pn_expr {p : T α} (h : PE π m κ p) : PN π (sExpr m) (p.bind fun _ => .ret ()) (fun _ => π) := fun σ hm =>
  (h σ hm).bind fun a q e => .ret ⟨rfl, hm.frz e.2⟩
theorem pn_next : PN π sNext (.ret ()) (fun _ => π) := fun σ hm => .ret ⟨rfl, hm⟩
/-! one after the other -/
theorem pn_end {p : T S1} (g : S1 → S) (h : PN π A p po1) (s : ∀ s, Sub (po1 s) (po (g s))) : PN π A (p.bind fun s => .ret (g s)) po := fun σ hm => by
  rw [show A σ = (A σ).bind .ret from (T.bind_id _).symm]
  refine (h σ hm).bind (f := fun s => T.ret (g s)) fun a q e => .ret ⟨e.1, (s a).mat e.2⟩
theorem pn_seq {p : T S1} {q : S1 → T S} (h : PN π A p po1) (h2 : ∀ s, PN (po1 s) B (q s) po) : PN π (sSeq A B) (p.bind q) po := fun σ hm =>
  (h σ hm).bind fun a r e => by
    obtain ⟨f, σ'⟩ := r
    obtain ⟨e1, e2⟩ := e
    have e1 : f = .nx := e1
    subst e1
    exact h2 a _ e2
theorem pr_seq {p : T S1} {q : S1 → T α} (h : PN π A p po1) (h2 : ∀ s, PR (po1 s) B κ (q s)) : PR π (sSeq A B) κ (p.bind q) := fun σ hm =>
  (h σ hm).bind fun a r e => by
    obtain ⟨f, σ'⟩ := r
    obtain ⟨e1, e2⟩ := e
    have e1 : f = .nx := e1
    subst e1
    exact h2 a _ e2
theorem pb_seq {p : T S2} {q : S2 → T (Ct S1 S ρ)} (h : PN π A p po2) (h2 : ∀ s, PB (po2 s) B κr (q s) po1 po) : PB π (sSeq A B) κr (p.bind q) po1 po := fun σ hm =>
  (h σ hm).bind fun a r e => by
    obtain ⟨f, σ'⟩ := r
    obtain ⟨e1, e2⟩ := e
    have e1 : f = .nx := e1
    subst e1
    exact h2 a _ e2
def thenR {S1 S α : Type} (p : T (Ct S1 S α)) (q : S1 → T α) : T α := p.bind fun c => match c with
  | .nx s => q s
  | .rt x => .ret x
  | _ => .stop
def thenB {S2 S1 S ρ : Type} (p : T (Ct S2 S ρ)) (q : S2 → T (Ct S1 S ρ)) : T (Ct S1 S ρ) := p.bind fun c => match c with
  | .nx s => q s
  | .rt x => .ret (.rt x)
  | .bk s => .ret (.bk s)
  | .ct s => .ret (.ct s)
theorem pr_seqB {p : T (Ct S1 S α)} {q : S1 → T α} (h : PB π A κ p po1 po) (h2 : ∀ s, PR (po1 s) B κ (q s)) : PR π (sSeq A B) κ (thenR p q) := fun σ hm =>
  (h σ hm).bind fun a r e => by
    cases e with
    | nx e => exact h2 _ _ e
    | rt e => exact .ret ⟨_, rfl, e⟩
    | bk _ => exact .stop
    | ct _ => exact .stop
theorem pb_seqB {p : T (Ct S2 S ρ)} {q : S2 → T (Ct S1 S ρ)} (h : PB π A κr p po2 po) (h2 : ∀ s, PB (po2 s) B κr (q s) po1 po) : PB π (sSeq A B) κr (thenB p q) po1 po := fun σ hm =>
  (h σ hm).bind fun a r e => by
    cases e with
    | nx e => exact h2 _ _ e
    | rt e => exact .ret (.rt e)
    | bk e => exact .ret (.bk e)
    | ct e => exact .ret (.ct e)
theorem pb_n {p : T S1} (h : PN π A p po1) : PB π A κr (p.bind fun s => .ret (.nx s)) po1 po := fun σ hm => by
  rw [show A σ = (A σ).bind .ret from (T.bind_id _).symm]
  exact (h σ hm).bind fun a r e => by
    obtain ⟨f, σ'⟩ := r
    obtain ⟨e1, e2⟩ := e
    have e1 : f = .nx := e1
    subst e1
    exact .ret (.nx e2)
theorem pb_r {p : T ρ} (h : PR π A κr p) : PB π A κr (p.bind fun s => .ret (.rt s)) po1 po := fun σ hm => by
  rw [show A σ = (A σ).bind .ret from (T.bind_id _).symm]
  exact (h σ hm).bind fun a r e => by
    obtain ⟨f, σ'⟩ := r
    obtain ⟨r, e1, e2⟩ := e
    have e1 : f = .rt r := e1
    subst e1
    exact .ret (.rt e2)
theorem pb_brk {s : S} (h : Sub π (po s)) : PB π sBreak κr (.ret (.bk s)) po1 po := fun σ hm => .ret (.bk (h.mat hm))
theorem pb_cont {s : S} (h : Sub π (po s)) : PB π sCont κr (.ret (.ct s)) po1 po := fun σ hm => .ret (.ct (h.mat hm))
/-! if -/
theorem ite_rl {γ δ : Type} {Φ : γ → δ → Prop} {b : Bool} {s t : T γ} {u v : T δ} (h1 : b = true → Rl Φ s u) (h2 : b = false → Rl Φ t v) : Rl Φ (if b = true then s else t) (if b = true then u else v) := by
  cases b
  · exact h2 rfl
  · exact h1 rfl
theorem if_go {γ : Type} {Φ : γ → Fl × DL.Env → Prop} {pa pb : T γ} (ht : PTt π mt pt) (ha : ∀ σ, Mat π σ → Rl Φ pa (A σ)) (hb : ∀ σ, Mat π σ → Rl Φ pb (B σ)) (σ : DL.Env) (hm : Mat π σ) : Rl Φ (iteP pt pa pb) (sIf mt A B σ) :=
  (ht σ hm).bind fun b r e => by
    obtain ⟨b', k⟩ := r
    obtain ⟨e1, e2⟩ := e
    have e1 : b' = b := e1
    subst e1
    exact ite_rl (fun _ => ha _ (hm.frz e2)) fun _ => hb _ (hm.frz e2)
theorem pr_if {pa pb : T α} (ht : PTt π mt pt) (ha : PR π A κ pa) (hb : PR π B κ pb) : PR π (sIf mt A B) κ (iteP pt pa pb) := fun σ hm => if_go ht ha hb σ hm
theorem pn_if {pa pb : T S} (ht : PTt π mt pt) (ha : PN π A pa po) (hb : PN π B pb po) : PN π (sIf mt A B) (iteP pt pa pb) po := fun σ hm => if_go ht ha hb σ hm
theorem pb_if {pa pb : T (Ct S1 S ρ)} (ht : PTt π mt pt) (ha : PB π A κr pa po1 po) (hb : PB π B κr pb po1 po) : PB π (sIf mt A B) κr (iteP pt pa pb) po1 po := fun σ hm => if_go ht ha hb σ hm
/-- if c: return …; the rest -/
theorem pr_ifL {pa pb : T α} (ht : PTt π mt pt) (ha : PR π A κ pa) (hb : PR π B κ pb) : PR π (sSeq (sIf mt A sNext) B) κ (iteP pt pa pb) := fun σ hm => by
  have e : sSeq (sIf mt A sNext) B σ = sIf mt (sSeq A B) B σ := by
    show ((mt σ).bind _).bind _ = (mt σ).bind _
    rw [T.bind_assoc]
    congr 1; funext q
    cases q.1 <;> rfl
  rw [e]
  refine if_go ht (fun σ hm => ?_) hb σ hm
  exact (ha σ hm).bindR fun a r ⟨r', e1, e2⟩ => by
    obtain ⟨f, σ'⟩ := r
    have e1 : f = .rt r' := e1
    subst e1
    exact .ret ⟨_, rfl, e2⟩
theorem pb_ifL {pa pb : T (Ct S1 S ρ)} (ht : PTt π mt pt) (ha : PB π (sSeq A B) κr pa po1 po) (hb : PB π B κr pb po1 po) : PB π (sSeq (sIf mt A sNext) B) κr (iteP pt pa pb) po1 po := fun σ hm => by
  have e : sSeq (sIf mt A sNext) B σ = sIf mt (sSeq A B) B σ := by
    show ((mt σ).bind _).bind _ = (mt σ).bind _
    rw [T.bind_assoc]
    congr 1; funext q
    cases q.1 <;> rfl
  rw [e]
  exact if_go ht ha hb σ hm
theorem pb_rS {p : T ρ} (h : PR π A κr p) : PB π (sSeq A B) κr (p.bind fun s => .ret (.rt s)) po1 po := fun σ hm =>
  (h σ hm).bind fun a r e => by
    obtain ⟨f, σ'⟩ := r
    obtain ⟨r, e1, e2⟩ := e
    have e1 : f = .rt r := e1
    subst e1
    exact .ret (.rt e2)
theorem pb_contS {s : S} (h : Sub π (po s)) : PB π (sSeq sCont B) κr (.ret (.ct s)) po1 po := fun σ hm => .ret (.ct (h.mat hm))
theorem pb_brkS {s : S} (h : Sub π (po s)) : PB π (sSeq sBreak B) κr (.ret (.bk s)) po1 po := fun σ hm => .ret (.bk (h.mat hm))
/-! for, while -/
def forN {ι S U : Type} (F : ι → T U) (f : S → U → T S) : S → List ι → T S
  | s, [] => .ret s
  | s, d :: ds => (F d).bind fun u => (f s u).bind fun s' => forN F f s' ds
def forB {ι S U ρ : Type} {S' : Type} (F : ι → T U) (f : S → U → T (Ct S S ρ)) : S → List ι → T (Ct S S' ρ)
  | s, [] => .ret (.nx s)
  | s, d :: ds => (F d).bind fun u => (f s u).bind fun c => match c with
    | .nx s' => forB F f s' ds
    | .ct s' => forB F f s' ds
    | .bk s' => .ret (.nx s')
    | .rt x => .ret (.rt x)
theorem pn_for {U : Type} {mi : MI} {g : MG} {pi : T (List DL.D)} {F : DL.D → T U} {pu : S → U → List Pt} {f : S → U → T S} (s0 : S) (hi : PI π mi pi) (h0 : Sub π (po s0)) (hg : ∀ s, PGt (po s) g F (pu s)) (hb : ∀ s u, PN (pu s u) B (f s u) po) :
    PN π (sFor mi g B) (pi.bind fun ds => forN F f s0 ds) po := by
  have go : ∀ (ds : List DL.D) (s : S) (σ : DL.Env), Mat (po s) σ → Rl (fun s (q : Fl × DL.Env) => q.1 = .nx ∧ Mat (po s) q.2) (forN F f s ds) (sForGo g B ds σ) := by
    intro ds
    induction ds with
    | nil => intro s σ hm; exact .ret ⟨rfl, hm⟩
    | cons d ds ih =>
      intro s σ hm
      refine (hg s d σ hm).bind fun u σ1 h1 => (hb s u σ1 h1).bind fun s' q e => ?_
      obtain ⟨fl, σ2⟩ := q
      obtain ⟨e1, e2⟩ := e
      have e1 : fl = .nx := e1
      subst e1
      exact ih s' σ2 e2
  intro σ hm
  refine (hi σ hm).bind fun ds q e => ?_
  obtain ⟨ds', k⟩ := q
  obtain ⟨e1, e2⟩ := e
  have e1 : ds' = ds := e1
  subst e1
  exact go ds' s0 _ (h0.mat (hm.frz e2))
theorem pb_for {U : Type} {mi : MI} {g : MG} {pi : T (List DL.D)} {F : DL.D → T U} {pu : S → U → List Pt} {f : S → U → T (Ct S S ρ)} {po' : S' → List Pt} (s0 : S) (hi : PI π mi pi) (h0 : Sub π (po s0)) (hg : ∀ s, PGt (po s) g F (pu s)) (hb : ∀ s u, PB (pu s u) B κr (f s u) po po) :
    PB π (sFor mi g B) κr (pi.bind fun ds => forB F f s0 ds) po po' := by
  have go : ∀ (ds : List DL.D) (s : S) (σ : DL.Env), Mat (po s) σ → Rl (CtR κr po po') (forB F f s ds) (sForGo g B ds σ) := by
    intro ds
    induction ds with
    | nil => intro s σ hm; exact .ret (.nx hm)
    | cons d ds ih =>
      intro s σ hm
      refine (hg s d σ hm).bind fun u σ1 h1 => (hb s u σ1 h1).bind fun s' q e => ?_
      cases e with
      | nx e => exact ih _ _ e
      | ct e => exact ih _ _ e
      | bk e => exact .ret (.nx e)
      | rt e => exact .ret (.rt e)
  intro σ hm
  refine (hi σ hm).bind fun ds q e => ?_
  obtain ⟨ds', k⟩ := q
  obtain ⟨e1, e2⟩ := e
  have e1 : ds' = ds := e1
  subst e1
  exact go ds' s0 _ (h0.mat (hm.frz e2))
def whileN {S : Type} (c : S → T Bool) (f : S → T S) : Nat → S → T S
  | 0, _ => .stop
  | n + 1, s => (c s).bind fun b => if b = true then (f s).bind fun s' => whileN c f n s' else .ret s
def whileB {S ρ : Type} {S' : Type} (c : S → T Bool) (f : S → T (Ct S S ρ)) : Nat → S → T (Ct S S' ρ)
  | 0, _ => .stop
  | n + 1, s => (c s).bind fun b => if b = true then (f s).bind fun t => (match t with
    | .nx s' => whileB c f n s'
    | .ct s' => whileB c f n s'
    | .bk s' => .ret (.nx s')
    | .rt x => .ret (.rt x)) else .ret (.nx s)
theorem pn_while {n : Nat} {c : S → T Bool} {f : S → T S} (s0 : S) (h0 : Sub π (po s0)) (hc : ∀ s, PTt (po s) mt (c s)) (hb : ∀ s, PN (po s) B (f s) po) : PN π (sWhile n mt B) (whileN c f n s0) po := by
  have go : ∀ (n : Nat) (s : S) (σ : DL.Env), Mat (po s) σ → Rl (fun s (q : Fl × DL.Env) => q.1 = .nx ∧ Mat (po s) q.2) (whileN c f n s) (sWhileGo mt B n σ) := by
    intro n
    induction n with
    | zero => intro s σ hm; exact .stop
    | succ n ih =>
      intro s σ hm
      refine (hc s σ hm).bind fun b q e => ?_
      obtain ⟨b', k⟩ := q
      obtain ⟨e1, e2⟩ := e
      have e1 : b' = b := e1
      subst e1
      refine ite_rl (fun _ => ?_) fun _ => .ret ⟨rfl, hm.frz e2⟩
      refine (hb s _ (hm.frz e2)).bind fun s' q e => ?_
      obtain ⟨fl, σ2⟩ := q
      obtain ⟨e1, e2⟩ := e
      have e1 : fl = .nx := e1
      subst e1
      exact ih s' σ2 e2
  intro σ hm
  exact go n s0 σ (h0.mat hm)
theorem pb_while {n : Nat} {c : S → T Bool} {f : S → T (Ct S S ρ)} {po' : S' → List Pt} (s0 : S) (h0 : Sub π (po s0)) (hc : ∀ s, PTt (po s) mt (c s)) (hb : ∀ s, PB (po s) B κr (f s) po po) : PB π (sWhile n mt B) κr (whileB c f n s0) po po' := by
  have go : ∀ (n : Nat) (s : S) (σ : DL.Env), Mat (po s) σ → Rl (CtR κr po po') (whileB c f n s) (sWhileGo mt B n σ) := by
    intro n
    induction n with
    | zero => intro s σ hm; exact .stop
    | succ n ih =>
      intro s σ hm
      refine (hc s σ hm).bind fun b q e => ?_
      obtain ⟨b', k⟩ := q
      obtain ⟨e1, e2⟩ := e
      have e1 : b' = b := e1
      subst e1
      refine ite_rl (fun _ => ?_) fun _ => .ret (.nx (hm.frz e2))
      refine (hb s _ (hm.frz e2)).bind fun s' q e => ?_
      cases e with
      | nx e => exact ih _ _ e
      | ct e => exact ih _ _ e
      | bk e => exact .ret (.nx e)
      | rt e => exact .ret (.rt e)
  intro σ hm
  exact go n s0 σ (h0.mat hm)
/-! a def -/
theorem fn_of {n : Nat} {sl : List Sl} {p : T α} (h : PR π B κ p) (hm : Mat π (sl ++ List.replicate (n - sl.length) .u)) : Rl κ.rel p (fnM n B sl) := by
  unfold fnM
  exact (h _ hm).bindR fun a r ⟨z, e1, e2⟩ => by
    obtain ⟨f, σ'⟩ := r
    have e1 : f = .rt z := e1
    subst e1
    exact .ret e2
end
end PL

namespace PL
open PySem PySem.Spec PyProof.Rows L2 DL
section
variable {α S S1 S2 ρ : Type} {κ : Kd α} {κr : Kd ρ} {π π' : List Pt} {m : M} {i : Nat} {A B : MS} {po : S → List Pt} {po1 : S1 → List Pt} {po2 : S2 → List Pt}
def bvP (p : T Bool) : T DL.D := p.bind fun b => .ret (.bool b)
def lvP (p : T (List DL.D)) : T DL.D := p.bind fun b => .ret (.list b)
def kvP (p : T (List (Key × DL.D))) : T DL.D := p.bind fun b => .ret (KK.val b)
def vbP (p : T DL.D) : T Bool := p.bind asBool
theorem ps_kf {p : T DL.D} (h : PE π m KF p) : PS π m p := fun σ hm => (h σ hm).mono fun a rk e => ⟨⟨fun σ' _ => KF.lk e.1 σ', by rw [KF.ns e.1]; exact kept.nil⟩, e.2⟩
theorem pn_setL {p : T (List DL.D)} (h : PE π m KL p) (w : wrP π i = true) : PN π (sSet i m) p (fun l => π.set i (.f (.list l))) := fun σ hm =>
  (h σ hm).bindR fun a q e => by
    have hm' := hm.frz e.2
    obtain ⟨s0, h0, hw⟩ := wrP_get w hm'
    rw [e.1, stor_of rfl h0 hw]
    exact .ret ⟨rfl, hm'.set i (.fo _ _ rfl)⟩
theorem pn_nextE {s : S} (h : Sub π (po s)) : PN π sNext (.ret s) po := fun σ hm => .ret ⟨rfl, h.mat hm⟩
theorem pb_nextE {s : S1} (h : Sub π (po1 s)) : PB π sNext κr (.ret (.nx s)) po1 po := fun σ hm => .ret (.nx (h.mat hm))
theorem pb_nE {p : T S2} (g : S2 → S1) (h : PN π A p po2) (s : ∀ s, Sub (po2 s) (po1 (g s))) : PB π A κr (p.bind fun s => .ret (.nx (g s))) po1 po := pb_n (pn_end (po := po1) g h s) |> fun z => by
  rw [T.bind_assoc] at z; exact z
theorem pb_thenE {p : T (Ct S2 S ρ)} (g : S2 → S1) (h : PB π A κr p po2 po) (s : ∀ s, Sub (po2 s) (po1 (g s))) : PB π A κr (thenB p fun s => .ret (.nx (g s))) po1 po := fun σ hm => by
  rw [show A σ = (A σ).bind .ret from (T.bind_id _).symm]
  exact (h σ hm).bind fun a r e => by
    cases e with
    | nx e => exact .ret (.nx ((s _).mat e))
    | rt e => exact .ret (.rt e)
    | bk e => exact .ret (.bk e)
    | ct e => exact .ret (.ct e)
end
/-! a draw -/
def p_draw : DL.D → T DL.D
  | .int n => if n ≤ 1000000000 then .draw n fun i => .ret (.int i) else .stop
  | _ => .stop
theorem pf_draw (a : DL.D) : Rl KV.rel (p_draw a) (mDraw [.o .pool, .v a]) := by
  cases a with
  | int n =>
    show Rl KV.rel (if n ≤ 1000000000 then .draw n fun i => .ret (.int i) else .stop) (if n ≤ 1000000000 then .draw n fun i => .ret (.v (.int i)) else .stop)
    split
    · exact .draw fun i => .ret rfl
    · exact .stop
  | _ => exact .stop
end PL

namespace DL
open PySem PySem.Spec PyProof.Rows L2
/-! ### sorted(list) of data of one kind -/
def isTC : DL.D → Bool
  | .tuple (_ :: _) => true
  | _ => false
def notTN : DL.D → Bool
  | .tuple _ => false
  | .none => false
  | _ => true
def sortOk (xs : List DL.D) : Bool := (xs.all fun d => xs.all fun e => PySem.W.alike d e) && (xs.all isTC || xs.all notTN) && (xs.all fun d => decide (d.depth ≤ 100)) && decide (xs.length ≤ 100000)
def sorted (xs : List DL.D) : List DL.D := xs.mergeSort (PySem.W.dataLe false id)
def bSorted (ds : List DL.D) : T R := match ds with
  | [.list xs] => if sortOk xs = true then .ret (.o (.lst (sorted xs))) else .stop
  | _ => .stop
section
variable {X : Cx}
theorem each_of {K : PySem.W.Frag} {F : Hp} : ∀ {ys : List V} {ds : List DL.D} {its : List Value}, Reps K F ys ds → Vals ys its → PySem.W.EachIs (fun (v : Value) (b : V × DL.D) => RelV b.1 v ∧ Rep K F b.1 b.2) its (ys.zip ds)
  | _, _, _, .nil, .nil => .nil
  | _, _, _, .cons h r, .cons a q => .cons ⟨a, h⟩ (each_of r q)
theorem of_each {K : PySem.W.Frag} {F : Hp} : ∀ {zs : List (V × DL.D)} {its : List Value}, PySem.W.EachIs (fun (v : Value) (b : V × DL.D) => RelV b.1 v ∧ Rep K F b.1 b.2) its zs → Reps K F (zs.map Prod.fst) (zs.map Prod.snd) ∧ Vals (zs.map Prod.fst) its
  | _, _, .nil => ⟨.nil, .nil⟩
  | _, _, .cons h r => ⟨.cons h.2 (of_each r).1, .cons h.1 (of_each r).2⟩
theorem cd_sorted (hu : X.A.units + 150 < cLine) : CallD X (.builtin "sorted") bSorted := by
  intro pins s σ H xs us Q I r ⟨F, ds, hle, hv, q⟩
  unfold bSorted at q
  split at q
  · rename_i ds
    split at q
    · rename_i ok
      unfold sortOk at ok
      simp only [Bool.and_eq_true, Bool.or_eq_true, decide_eq_true_eq] at ok
      obtain ⟨⟨⟨o1, o2⟩, o3⟩, o4⟩ := ok
      obtain ⟨x, rfl, vw⟩ := hv.one
      obtain ⟨a, ys, rfl, h1, r1⟩ := vw.list hle
      obtain ⟨its, rv, hl, hz⟩ := I.list (.inl (.inl h1))
      rw [Vals.ref1 r]
      have hlen : ys.length = ds.length := r1.len
      have hs : (ys.zip ds).map Prod.snd = ds := List.map_snd_zip (by omega)
      have e := each_of r1 rv
      refine PySem.W.sorted_data (bs := ys.zip ds) (enc := Prod.snd) (R := fun v b => RelV b.1 v ∧ Rep X.K F b.1 b.2) hl.isList e (e.mono fun v b hb => Rep.reads I hle b.2 b.1 v hb.2 hb.1) ?_ ?_ ?_ ?_ fun out k1 k2 => ?_
      · rw [hs]
        intro d hd d' hd'
        exact List.all_eq_true.mp (List.all_eq_true.mp o1 d hd) d' hd'
      · rw [hs]
        rcases o2 with o2 | o2
        · refine .inl fun d hd => ?_
          have := List.all_eq_true.mp o2 d hd
          cases d with
          | tuple l => cases l with
            | nil => cases this
            | cons x r => exact ⟨x, r, rfl⟩
          | _ => cases this
        · refine .inr fun d hd => ?_
          have := List.all_eq_true.mp o2 d hd
          cases d with
          | tuple l => cases this
          | none => cases this
          | _ => exact ⟨fun z => (nomatch z), fun _ z => (nomatch z)⟩
      · rw [List.length_zip, hlen, Nat.min_self]; exact Nat.le_trans o4 (by decide)
      · intro b hb
        have : b.2 ∈ ds := by rw [← hs]; exact List.mem_map.mpr ⟨b, hb, rfl⟩
        have := of_decide_eq_true (List.all_eq_true.mp o3 b.2 this)
        omega
      · obtain ⟨r2, v2⟩ := of_each k2
        have em : ((ys.zip ds).mergeSort (PySem.W.dataLe false Prod.snd)).map Prod.snd = sorted ds := by
          unfold sorted
          conv => rhs; rw [← hs]
          exact List.map_mergeSort (fun _ _ _ _ => rfl)
        rw [em] at r2
        obtain ⟨ep, he'⟩ := PyProof.Rows.sortedAll_at s.heap its out.toArray
        have hp : H (s.heap.objs.size + 1) = none := I.hok.fresh (Nat.le_succ _)
        have hlen2 : (((ys.zip ds).mergeSort (PySem.W.dataLe false Prod.snd)).map Prod.fst).length ≤ sizeLine := by
          rw [List.length_map, List.length_mergeSort, List.length_zip, hlen, Nat.min_self]; exact Nat.le_trans o4 (by decide)
        exact ⟨.ref _, upd H (s.heap.objs.size + 1) (.lst _), I.laid (t' := s.toks) (fun _ _ => PyProof.Rows.sortedAll_old) (Nat.le_succ _) ⟨hlen2, out, ep, v2, he'⟩, rfl, q _ _ _ (.newO hle hp) (.o (by intro z; cases z) (hle.free hp) hp ⟨_, upd_same, r2⟩)⟩
    · exact q.elim
  · exact q.elim
end
end DL
namespace DL
open PySem PySem.Spec PyProof.Rows L2
/-! ### d[k] = v, d a dict of one's own -/
def putD (kvs : List (Key × DL.D)) (k : Key) (d : DL.D) : List (Key × DL.D) :=
  if (kvs.any fun kv => decide (kv.1 = k)) = true then kvs.map (fun kv => if kv.1 = k then (kv.1, d) else kv) else kvs ++ [(k, d)]
theorem keyD_inj {k k' : Key} (h : keyD k = keyD k') : k = k' := by
  cases k <;> cases k' <;> first | (injection h with h; rw [h]) | cases h
theorem RepK.inv {K : PySem.W.Frag} {F : Hp} {k k2 : Key} {v : V} {vs : List (Key × V)} {d2 : DL.D} {kvs : List (Key × DL.D)} (r : RepK K F ((k, v) :: vs) (((k2, d2) :: kvs).map fun p => (keyD p.1, p.2))) : k = k2 ∧ Rep K F v d2 ∧ RepK K F vs (kvs.map fun p => (keyD p.1, p.2)) := by
  have go : ∀ z, RepK K F ((k, v) :: vs) z → ∃ d ds, z = (keyD k, d) :: ds ∧ Rep K F v d ∧ RepK K F vs ds := fun z r => by
    cases r with
    | cons h r => exact ⟨_, _, rfl, h, r⟩
  obtain ⟨d, ds, e, h1, h2⟩ := go _ r
  rw [List.map_cons] at e
  obtain ⟨e1, e2⟩ := List.cons.inj e
  obtain ⟨e3, e4⟩ := Prod.mk.inj e1
  subst e2
  have e4 : d2 = d := e4
  subst e4
  exact ⟨(keyD_inj e3).symm, h1, h2⟩
theorem RepK.put {K : PySem.W.Frag} {F : Hp} {v : V} {d : DL.D} (hv : Rep K F v d) (k : Key) : ∀ {vs : List (Key × V)} {kvs : List (Key × DL.D)}, RepK K F vs (kvs.map fun p => (keyD p.1, p.2)) → RepK K F (putK vs k v) ((putD kvs k d).map fun p => (keyD p.1, p.2)) := by
  have any : ∀ {vs : List (Key × V)} {kvs : List (Key × DL.D)}, RepK K F vs (kvs.map fun p => (keyD p.1, p.2)) → (vs.any fun kv => decide (kv.1 = k)) = (kvs.any fun kv => decide (kv.1 = k)) := by
    intro vs
    induction vs with
    | nil => intro kvs r; cases kvs with | nil => rfl | cons _ _ => cases r
    | cons p vs ih =>
      intro kvs r
      cases kvs with
      | nil => cases r
      | cons q kvs =>
        obtain ⟨e, _, r'⟩ := RepK.inv r
        rw [List.any_cons, List.any_cons, ih r', e]
  have mp : ∀ {vs : List (Key × V)} {kvs : List (Key × DL.D)}, RepK K F vs (kvs.map fun p => (keyD p.1, p.2)) → RepK K F (vs.map fun kv => if kv.1 = k then (kv.1, v) else kv) ((kvs.map fun kv => if kv.1 = k then (kv.1, d) else kv).map fun p => (keyD p.1, p.2)) := by
    intro vs
    induction vs with
    | nil => intro kvs r; cases kvs with | nil => exact .nil | cons _ _ => cases r
    | cons p vs ih =>
      intro kvs r
      cases kvs with
      | nil => cases r
      | cons q kvs =>
        obtain ⟨k', v'⟩ := p
        obtain ⟨k2, d2⟩ := q
        obtain ⟨e, h, r'⟩ := RepK.inv r
        subst e
        simp only [List.map_cons]
        by_cases hk : k' = k
        · rw [if_pos hk, if_pos hk]; exact .cons hv (ih r')
        · rw [if_neg hk, if_neg hk]; exact .cons h (ih r')
  have app : ∀ {vs : List (Key × V)} {kvs : List (Key × DL.D)}, RepK K F vs (kvs.map fun p => (keyD p.1, p.2)) → RepK K F (vs ++ [(k, v)]) ((kvs ++ [(k, d)]).map fun p => (keyD p.1, p.2)) := by
    intro vs
    induction vs with
    | nil => intro kvs r; cases kvs with | nil => exact .cons hv .nil | cons _ _ => cases r
    | cons p vs ih =>
      intro kvs r
      cases kvs with
      | nil => cases r
      | cons q kvs =>
        obtain ⟨k', v'⟩ := p
        obtain ⟨k2, d2⟩ := q
        obtain ⟨e, h, r'⟩ := RepK.inv r
        subst e
        exact .cons h (ih r')
  intro vs kvs r
  unfold putK putD
  rw [any r]
  split
  · exact mp r
  · exact app r
theorem RepK.len {K : PySem.W.Frag} {F : Hp} {vs : List (Key × V)} {ds : List (DL.D × DL.D)} (r : RepK K F vs ds) : vs.length = ds.length := by
  induction vs generalizing ds with
  | nil => cases r; rfl
  | cons p vs ih => cases r with | cons h r => exact congrArg (· + 1) (ih r)
def ownK (σ : Env) (i : Nat) : T (List (Key × DL.D)) := match σ[i]? with
  | some (.o (.dic kvs)) => .ret kvs
  | _ => .stop
theorem ownK_wp {σ : Env} {i : Nat} {Q : List (Key × DL.D) → Prop} (h : (ownK σ i).wp Q) : ∃ ds, σ[i]? = some (.o (.dic ds)) ∧ Q ds := by
  unfold ownK at h
  split at h
  · rename_i ds e; exact ⟨ds, e, h⟩
  · exact h.elim
def sPutD (i : Nat) (mk m : M) : MS := fun σ => (m σ).bind fun p => (look (frz σ p.2) p.1).bind fun d => (ownK (frz (frz σ p.2) (slotsOf p.1)) i).bind fun _ => (mk (frz (frz σ p.2) (slotsOf p.1))).bind fun q =>
  (look (frz (frz (frz σ p.2) (slotsOf p.1)) q.2) q.1).bind fun k => match keyOf k with
  | some k => (ownK (frz (frz (frz σ p.2) (slotsOf p.1)) q.2) i).bind fun kvs => chk (kvs.length + 1) (.ret (.nx, (frz (frz (frz σ p.2) (slotsOf p.1)) q.2).set i (.o (.dic (putD kvs k d)))))
  | none => .stop
def rSetD : V → V → V → Hp → (Hp → Prop) → Prop := fun o i v H Q => ∃ a H', o = .ref a ∧ DPut H a i v H' ∧ Q H'
theorem set_dict {X : Cx} (hu : X.A.units + 1 < cLine) : PSet X rSetD := by
  intro pins s σ H o i v ov iv u Q I ro ri rv ⟨a, H', e, g, q⟩
  subst e
  obtain rfl : ov = Value.ref a := ro
  exact d_setItem hu I g ri rv fun s' I' => ⟨H', I', q⟩
section
variable {K : PySem.W.Frag} {H : Hp} {σV : L2.St} {En : Ends} {i : Nat} {m : M}
theorem sPutD_ls {mk : M} (h : LS K (sPutD i mk m) En σV H) : tAsg (LE K m) (gSub (tVar i) (LE K mk) rSetD) En σV H := by
  obtain ⟨F, σ, s, h⟩ := h
  unfold sPutD at h
  rw [T.wp_bind] at h
  refine LE.then s (T.wp_mono h fun p h x F1 H1 s1 g1 r1 => ?_)
  rw [T.wp_bind] at h
  have rw1 := r1.w s (H0 := H) (k := p.2) fun _ o e => ⟨o, e⟩
  obtain ⟨d, el, _, h⟩ := look_view rw1 s1 h
  obtain ⟨F2, w2, s2, r2⟩ := esc_rep rw1 s1 el
  have g2 := g1.wid (l := slotsOf p.1) w2
  rw [T.wp_bind] at h
  obtain ⟨ds0, hi, h⟩ := ownK_wp h
  obtain ⟨a, hV, hF, vs0, ha, _⟩ := s2.own i _ hi
  refine ⟨.ref a, hV, ?_⟩
  rw [T.wp_bind] at h
  refine LE.then s2 (T.wp_mono h fun q h y F3 H3 s3 g3 r3 => ?_)
  rw [T.wp_bind] at h
  obtain ⟨k, _, vw, h⟩ := look_view (r3.w s2 (H0 := H1) fun _ o e => ⟨o, e⟩) s3 h
  split at h
  · rename_i k hk
    rw [T.wp_bind] at h
    obtain ⟨kvs, hi2, h⟩ := ownK_wp h
    obtain ⟨b, q1, q2, vs, hb, rb⟩ := s3.own i _ hi2
    rw [hV] at q1; cases q1
    obtain ⟨hz, h⟩ := chk_wp h
    have hl : vs.length < sizeLine := by
      have := RepK.len rb
      rw [List.length_map] at this
      omega
    obtain ⟨s4, g4⟩ := s3.mod hi2 (by intro z; cases z) hV (.dK (putK vs k x)) (x' := .dic (putD kvs k d)) (by intro z; cases z) ⟨_, upd_same, RepK.put (r2.mono g3.ff) _ rb⟩
    refine ⟨a, _, rfl, ?_, h σV F3 _ s4 ((g2.trans g3).trans g4)⟩
    rw [vw.key hk]
    exact DPut.k hb hl
  · exact h.elim
end
section
variable {X : Cx} {m : M} {e : Expr} {pos : Pos}
theorem ds_putD (hu : X.A.units + 1 < cLine) (i : Nat) {mk : M} {x : Str} {k : Expr} {p1 p2 : Pos} (hk : DE mk X k) (he : DE m X e) (hN : X.N[i]? = some x := by rfl) (hv : Vis X.env.scope x := by first | exact Or.inl rfl | exact Or.inr (Or.inl rfl) | exact Or.inr (Or.inr rfl)) (hd : (x == ("__debug__" : Str)) = false := by decide) (hcd : (x == ("__classdict__" : Str)) = false := by decide)
    (hs : swapsWithSole [.Subscript (.Name x p1) k p2] e pos.line X.env = pure false := by rfl) (hw : swappedStores [.Subscript (.Name x p1) k p2] e X.env = pure none := by rfl) (h1 : (assignEach [.Subscript (.Name x p1) k p2] X.env).map (·.2) = [assign (.Subscript (.Name x p1) k p2) X.env] := by rfl)
    (ha : ∀ v, assign (.Subscript (.Name x p1) k p2) X.env v = (do
      let ov ← holding [v] (eval (.Name x p1) X.env)
      let iv ← holding [v, ov] (eval k X.env)
      standAt p2
      holding [v, ov, iv] (setItem ov iv v)
      release [v, ov, iv] []) := by intro _; rfl) : DS (sPutD i mk m) X (.Assign [.Subscript (.Name x p1) k p2] e pos) :=
  ⟨PS.imp (ps_asg he.pe (pg_sub (pe_var hN hv hd hcd) hk.pe (set_dict hu) ha) hs hw h1) fun _ _ _ h => sPutD_ls h⟩
end
end DL
namespace DL
open PySem PySem.Spec PyProof.Rows L2
/-! ### x.extend(e), x.pop() -/
def listD : DL.D → T (List DL.D)
  | .list es => .ret es
  | _ => .stop
def sExt (i : Nat) (m : M) : MS := fun σ => (ownL σ i).bind fun _ => (m σ).bind fun p => (look (frz σ p.2) p.1).bind fun d => (listD d).bind fun es => (ownL (frz σ p.2) i).bind fun ds =>
  chk (ds.length + es.length) (.ret (.nx, (frz σ p.2).set i (.o (.lst (ds ++ es)))))
def sPop (i : Nat) : MS := fun σ => (ownL σ i).bind fun ds => if ds.isEmpty = true then .stop else .ret (.nx, σ.set i (.o (.lst ds.dropLast)))
theorem Reps.dropLast {K : PySem.W.Frag} {F : Hp} {v : List V} {d : List DL.D} (h : Reps K F v d) : Reps K F v.dropLast d.dropLast := by
  rw [List.dropLast_eq_take, List.dropLast_eq_take, h.len]
  exact h.take _
section
variable {K : PySem.W.Frag} {H : Hp} {σV : L2.St} {En : Ends} {i : Nat} {m : M}
theorem sExt_ls (h : LS K (sExt i m) En σV H) : tDrop (tBM K "list" rExtend (tVar i) (tCons (LE K m) tNil)) En σV H := by
  obtain ⟨F, σ, s, h⟩ := h
  unfold sExt at h
  rw [T.wp_bind] at h
  obtain ⟨ds0, hi, h⟩ := ownL_wp h
  obtain ⟨a, hV, hF, vs0, ha, _⟩ := s.own i _ hi
  refine ⟨.ref a, hV, .inl ⟨rfl, vs0, .inl (.inl ha)⟩, ?_⟩
  rw [T.wp_bind] at h
  refine LE.then s (T.wp_mono h fun p h x F1 H1 s1 g1 r1 => ?_)
  rw [T.wp_bind] at h
  have rw1 := r1.w s (H0 := H) (k := p.2) fun _ o e => ⟨o, e⟩
  obtain ⟨d, el, vw, h⟩ := look_view rw1 s1 h
  rw [T.wp_bind] at h
  cases d with
  | list es =>
    have h : ((ownL (frz σ p.2) i).bind fun ds => chk (ds.length + es.length) (.ret (Fl.nx, (frz σ p.2).set i (.o (.lst (ds ++ es)))))).wp (Post K F σ σV H En) := h
    rw [T.wp_bind] at h
    obtain ⟨b', zs, ex, hb', rz⟩ := vw.list s1.le
    subst ex
    obtain ⟨ds, hi2, h⟩ := ownL_wp h
    obtain ⟨hz, h⟩ := chk_wp h
    obtain ⟨b, q1, q2, vs, hb, rb⟩ := s1.own i _ hi2
    rw [hV] at q1; cases q1
    obtain ⟨s3, g3⟩ := s1.mod hi2 (by intro z; cases z) hV (.lst (vs ++ zs)) (x' := .lst (ds ++ es)) (by intro z; cases z) ⟨_, upd_same, rb.append rz⟩
    exact ⟨a, b', vs, zs, rfl, rfl, hb, hb', by rw [rb.len, rz.len]; omega, h σV F1 _ s3 (g1.trans g3)⟩
  | _ => exact h.elim
theorem sPop_ls (h : LS K (sPop i) En σV H) : tDrop (tBM0 K "list" rPop (tVar i)) En σV H := by
  obtain ⟨F, σ, s, h⟩ := h
  unfold sPop at h
  rw [T.wp_bind] at h
  obtain ⟨ds, hi, h⟩ := ownL_wp h
  obtain ⟨a, hV, hF, vs, ha, rb⟩ := s.own i _ hi
  split at h
  · exact h.elim
  · rename_i hne
    have hl : vs.length = ds.length := rb.len
    have h0 : 0 < vs.length := by
      rw [hl]
      cases ds with
      | nil => exact absurd rfl hne
      | cons _ _ => exact Nat.succ_pos _
    obtain ⟨s3, g3⟩ := s.mod hi (by intro z; cases z) hV (.lst vs.dropLast) (x' := .lst ds.dropLast) (by intro z; cases z) ⟨_, upd_same, rb.dropLast⟩
    exact ⟨.ref a, hV, .inl ⟨rfl, vs, .inl (.inl ha)⟩, a, vs, vs[vs.length - 1]'(by omega), rfl, rfl, ha, List.getElem?_eq_getElem _, h σV F _ s3 g3⟩
end
theorem ds_ext {X : Cx} {e : Expr} {m : M} {pos : Pos} (i : Nat) {x : Str} {p1 p2 p3 : Pos} (he : DE m X e) (hN : X.N[i]? = some x := by rfl) (hv : Vis X.env.scope x := by first | exact Or.inl rfl | exact Or.inr (Or.inl rfl) | exact Or.inr (Or.inr rfl))
    (hd : (x == ("__debug__" : Str)) = false := by decide) (hcd : (x == ("__classdict__" : Str)) = false := by decide)
    (hps : ∀ {t : TE}, PE X (.Name x p1) (tVar i) → PE X e t → PS X (.Expr (.Call (.Attribute (.Name x p1) "extend" p2) [e] [] p3) pos) (tDrop (tBM X.K "list" rExtend (tVar i) (tCons t tNil))) := by
      exact fun h1 h2 => ps_expr (pe_bm PySem.F.plainAttrs_list PySem.F.slot_list_extend PySem.F.type_list_extend mt_extend h1 (pa_cons h2 pa_nil))) :
    DS (sExt i m) X (.Expr (.Call (.Attribute (.Name x p1) "extend" p2) [e] [] p3) pos) := ⟨PS.imp (hps (pe_var hN hv hd hcd) he.pe) fun _ _ _ h => sExt_ls h⟩
theorem ds_pop {X : Cx} {pos : Pos} (i : Nat) {x : Str} {p1 p2 p3 : Pos} (hN : X.N[i]? = some x := by rfl) (hv : Vis X.env.scope x := by first | exact Or.inl rfl | exact Or.inr (Or.inl rfl) | exact Or.inr (Or.inr rfl))
    (hd : (x == ("__debug__" : Str)) = false := by decide) (hcd : (x == ("__classdict__" : Str)) = false := by decide)
    (hps : PE X (.Name x p1) (tVar i) → PS X (.Expr (.Call (.Attribute (.Name x p1) "pop" p2) [] [] p3) pos) (tDrop (tBM0 X.K "list" rPop (tVar i))) := by
      exact fun h1 => ps_expr (pe_bm0 PySem.F.plainAttrs_list PySem.F.slot_list_pop PySem.F.type_list_pop mt_pop h1)) :
    DS (sPop i) X (.Expr (.Call (.Attribute (.Name x p1) "pop" p2) [] [] p3) pos) := ⟨PS.imp (hps (pe_var hN hv hd hcd)) fun _ _ _ h => sPop_ls h⟩
end DL

namespace DL
open PySem PySem.Spec PyProof.Rows L2
/-! ### {k: v for x in l if c} -/
def mDcGo (g : MG) (tt : MT) (tk tv : M) (vs : List Nat) : List DL.D → Env → List (Key × DL.D) → T (List (Key × DL.D) × List Nat)
  | [], _, acc => .ret (acc, [])
  | d :: ds, σ, acc => (g d σ).bind fun σ1 => (tt σ1).bind fun p => if p.1 = true then
      (tk (frz σ1 p.2)).bind fun qk => (tv (frz (frz σ1 p.2) qk.2)).bind fun q => (look (frz (frz (frz σ1 p.2) qk.2) q.2) qk.1).bind fun ky => (look (frz (frz (frz σ1 p.2) qk.2) q.2) q.1).bind fun y => (match keyOf ky with
        | some k => (mDcGo g tt tk tv vs ds (mwipe (frz σ1 (p.2 ++ (qk.2 ++ (q.2 ++ slotsOf q.1)))) vs) (putD acc k y)).bind fun z => .ret (z.1, (p.2 ++ (qk.2 ++ (q.2 ++ slotsOf q.1))) ++ z.2)
        | none => .stop)
    else (mDcGo g tt tk tv vs ds (mwipe (frz σ1 p.2) vs) acc).bind fun z => .ret (z.1, p.2 ++ z.2)
def mDc (mi : MI) (g : MG) (tt : MT) (tk tv : M) (vs : List Nat) : M := fun σ => (mi σ).bind fun p => chk p.1.length ((mDcGo g tt tk tv vs p.1 (mwipe (frz σ p.2) vs) []).bind fun z => .ret (.o (.dic z.1), p.2 ++ out vs z.2))
theorem putK_len {vs : List (Key × V)} {k : Key} {v : V} : (putK vs k v).length ≤ vs.length + 1 := by
  unfold putK
  split
  · rw [List.length_map]; omega
  · rw [List.length_append]; exact Nat.le_refl _
section
variable {K : PySem.W.Frag} {F F' F0 F1 F2 H H' H0 H1 H2 : Hp} {σ σ' σ0 σ1 σ2 : Env} {σV σV' σV0 σV1 σV2 : L2.St}
theorem RepK.mono' {F F' : Hp} (e : Same F F') {vs : List (Key × V)} {ds : List (DL.D × DL.D)} (h : RepK K F vs ds) : RepK K F' vs ds := RepK.mono e h
theorem mDc_le {mi : MI} {g : MG} {tt : MT} {tk tv : M} {vs is : List Nat} {Q : VK} (his : ∀ i ∈ is, i ∈ vs) (hg : GOk is g) (h : LE K (mDc mi g tt tk tv vs) σV H Q) : tDc (LI K mi) (LG K is g) (LT K tt) (LE K tk) (LE K tv) vs σV H Q := by
  obtain ⟨F, σ, s, h⟩ := h
  unfold mDc at h
  rw [T.wp_bind] at h
  refine ⟨F, σ, s, T.wp_mono h fun p h J F1 H1 s1 g1 it Dn hD => ?_⟩
  obtain ⟨hz, h⟩ := chk_wp h
  rw [T.wp_bind] at h
  obtain ⟨ds, k0⟩ := p
  have it : ItOk K F1 J ds := it
  have hz : ds.length ≤ sizeLine := hz
  have h : (mDcGo g tt tk tv vs ds (mwipe (frz σ k0) vs) []).wp fun z => ∀ v F' H', Hd K F' H' σV (frz σ (k0 ++ out vs z.2)) → G F σ σV H F' (frz σ (k0 ++ out vs z.2)) σV H' → RR K F' H' σV H v (.o (.dic z.1)) → Q v H' := h
  have hD0 : H Dn = none := by
    cases q : H Dn with
    | none => rfl
    | some o =>
      obtain ⟨u, hu⟩ := g1.th _ _ q
      rw [hD] at hu; cases hu
  have w1 := s1.wipe vs
  let I : Nat → Hp → Prop := fun i Hc => ∃ F2 τ k acc ys, Hd K F2 Hc (L2.wipe σV vs) τ ∧ G F1 (mwipe (frz σ k0) vs) (L2.wipe σV vs) H1 F2 τ (L2.wipe σV vs) Hc ∧ F2 Dn = none ∧ Hc Dn = some (.dK acc) ∧ acc.length ≤ i ∧ RepK K F2 acc (ys.map fun p => (keyD p.1, p.2)) ∧
    τ.length = (frz σ k0).length ∧ (∀ j, j ∉ vs → τ[j]? = (frz (frz σ k0) (out vs k))[j]?) ∧ (∀ (j : Nat) x, τ[j]? = some (.o x) → j ∉ vs ∧ (frz σ k0)[j]? = some (.o x)) ∧
    (mDcGo g tt tk tv vs (ds.drop i) τ ys).wp fun z => ∀ v F' H', Hd K F' H' σV (frz σ (k0 ++ out vs (k ++ z.2))) → G F σ σV H F' (frz σ (k0 ++ out vs (k ++ z.2))) σV H' → RR K F' H' σV H v (.o (.dic z.1)) → Q v H'
  have F1D : F1 Dn = none := s1.le.free hD
  have ownD : ∀ {j : Nat} {x : O}, j ∉ vs → (frz σ k0)[j]? = some (.o x) → σV[j]? ≠ some (some (.ref Dn)) := fun {j x} _ e q => by
    obtain ⟨b, e1, _, e3⟩ := s1.own j x e
    rw [q] at e1; cases e1
    obtain ⟨o, ho⟩ := e3.there
    rw [hD] at ho; cases ho
  have start : I 0 (upd H1 Dn (.dK [])) := by
    refine ⟨F1, _, [], [], [], ?_, ?_, F1D, upd_same, Nat.zero_le _, .nil, mwipe_len _ _, fun j hj => mwipe_out hj, fun j x e => mwipe_own e, ?_⟩
    · exact w1.grow (.newO s1.le hD)
    · exact G.same (.newO s1.le hD)
    · rw [List.drop_zero]; exact h
  refine ⟨fun i n Hc => n = ds.length - i ∧ i ≤ ds.length ∧ I i Hc, ⟨ds.length, rfl, Nat.zero_le _, start⟩, ?_⟩
  rintro i n Hc ⟨rfl, hi, F2, τ, k, acc, ys, s2, g2, F2D, HcD, hacc, ra, tl, tout, town, hgo⟩
  have e12 : Same F1 Hc := g2.ff.trans s2.le
  by_cases hlt : i < ds.length
  · refine .inr ⟨it.go Hc i e12 hlt, fun H' => I (i + 1) H', fun H' q => ⟨ds.length - (i + 1), by omega, rfl, hlt, q⟩, fun x H3 hy => ?_⟩
    obtain ⟨d, hd, hx⟩ := it.yld Hc H3 i x e12 hlt hy
    obtain ⟨F3, gr, rx⟩ := hx F2 g2.ff s2.le
    have s3 := s2.grow gr
    have g3 := g2.trans (G.same gr)
    have F3D : F3 Dn = none := (gr.nw _ _ HcD).trans F2D
    have H3D : H3 Dn = some (.dK acc) := gr.hh _ _ HcD
    have ed : ds.drop i = d :: ds.drop (i + 1) := by
      rw [List.drop_eq_getElem_cons hlt]
      have := List.getElem?_eq_getElem hlt
      rw [hd] at this
      rw [Option.some.inj this]
    rw [ed] at hgo
    have hgo : ((g d τ).bind fun σ1 => (tt σ1).bind fun p => if p.1 = true then
      (tk (frz σ1 p.2)).bind fun qk => (tv (frz (frz σ1 p.2) qk.2)).bind fun q => (look (frz (frz (frz σ1 p.2) qk.2) q.2) qk.1).bind fun ky => (look (frz (frz (frz σ1 p.2) qk.2) q.2) q.1).bind fun y => (match keyOf ky with
        | some k => (mDcGo g tt tk tv vs (ds.drop (i + 1)) (mwipe (frz σ1 (p.2 ++ (qk.2 ++ (q.2 ++ slotsOf q.1)))) vs) (putD ys k y)).bind fun z => T.ret (z.1, (p.2 ++ (qk.2 ++ (q.2 ++ slotsOf q.1))) ++ z.2)
        | none => .stop)
      else (mDcGo g tt tk tv vs (ds.drop (i + 1)) (mwipe (frz σ1 p.2) vs) ys).bind fun z => T.ret (z.1, p.2 ++ z.2)).wp _ := hgo
    rw [T.wp_bind] at hgo
    refine ⟨F3, τ, d, s3, rx, T.wp_mono (hg d τ _ hgo) fun τ1 ⟨hgo, l1, o1, w1⟩ σV2 s4 g4 tg => ⟨wipe_eq tg his, ?_⟩⟩
    have g14 := g3.trans g4
    have noD : NoOwn τ1 σV2 Dn := fun j x e q => by
      obtain ⟨hj, e1⟩ := w1 j x e
      obtain ⟨hj2, e2⟩ := town j x e1
      rw [tg.2 j hj, wipe_out hj2] at q
      exact ownD hj2 e2 q
    have back : ∀ {l : List Nat} {F5 H5 : Hp} {acc' : List (Key × V)} {ys' : List (Key × DL.D)}, Hd K F5 H5 σV2 (frz τ1 l) → G F1 (mwipe (frz σ k0) vs) (L2.wipe σV vs) H1 F5 (frz τ1 l) σV2 H5 → F5 Dn = none → H5 Dn = some (.dK acc') → acc'.length ≤ i + 1 → RepK K F5 acc' (ys'.map fun p => (keyD p.1, p.2)) →
        ((mDcGo g tt tk tv vs (ds.drop (i + 1)) (mwipe (frz τ1 l) vs) ys').wp fun z => ∀ v F' H', Hd K F' H' σV (frz σ (k0 ++ out vs ((k ++ l) ++ z.2))) → G F σ σV H F' (frz σ (k0 ++ out vs ((k ++ l) ++ z.2))) σV H' → RR K F' H' σV H v (.o (.dic z.1)) → Q v H') → I (i + 1) H5 := by
      intro l F5 H5 acc' ys' s5 g5 f5 d5 n5 r5 h5
      have s6 := s5.wipe vs
      rw [wipe_eq tg his] at s6
      have hagree : ∀ j, j ∉ vs → τ1[j]? = (frz (frz σ k0) (out vs k))[j]? := fun j hj => (o1 j fun z => hj (his j z)).trans (tout j hj)
      refine ⟨F5, _, k ++ l, acc', ys', s6, ?_, f5, d5, n5, r5, by rw [mwipe_len, frz_len, l1, tl], fun j hj => ?_, fun j x e => ?_, h5⟩
      · refine ⟨g5.ff, g5.nf, g5.fr, fun j x a e q => ?_, fun j e => ?_, g5.th⟩
        · obtain ⟨hj, e⟩ := mwipe_own e
          rw [wipe_out hj] at q
          have hj2 : σV2[j]? = some (some (.ref a)) := by rw [tg.2 j fun z => hj (his j z), wipe_out hj]; exact q
          exact g5.ow j x a e hj2
        · obtain ⟨q1, q2, q3⟩ := g5.pl j e
          have hj : j ∉ vs := (mwipe_own e).1
          exact ⟨(mwipe_out hj).trans q1, rfl, fun a s hV q => q3 a s hV q⟩
      · rw [mwipe_out hj, frz_key (vs := vs) l τ1 _ hagree (by rw [l1, tl, frz_len, frz_len, frz_len]) j hj, ← frz_append, out_append]
      · obtain ⟨hj, e⟩ := mwipe_own e
        have e := (w1 j x (frz_own e)).2
        exact town j x e
    rw [T.wp_bind] at hgo
    refine ⟨F3, τ1, s4, T.wp_mono hgo fun p hgo F4 H4 s5 g5 => ?_⟩
    obtain ⟨b, l⟩ := p
    have H4D : H4 Dn = some (.dK acc) := g5.fr _ _ H3D noD
    have F4D : F4 Dn = none := (g5.nf _ _ H3D noD).trans F3D
    have ra4 : RepK K F4 acc (ys.map fun p => (keyD p.1, p.2)) := (ra.mono gr.ff).mono g5.ff
    have g15 := g14.trans g5
    cases b with
    | false =>
      have hgo : ((mDcGo g tt tk tv vs (ds.drop (i + 1)) (mwipe (frz τ1 l) vs) ys).bind fun z => T.ret (z.1, l ++ z.2)).wp _ := hgo
      rw [T.wp_bind] at hgo
      refine back s5 g15 F4D H4D (Nat.le_succ_of_le hacc) ra4 (T.wp_mono hgo fun z hz => ?_)
      have hz : ∀ v F' H', Hd K F' H' σV (frz σ (k0 ++ out vs (k ++ (l ++ z.2)))) → _ := hz
      rw [← List.append_assoc] at hz
      exact hz
    | true =>
      have hgo : ((tk (frz τ1 l)).bind fun qk => (tv (frz (frz τ1 l) qk.2)).bind fun q => (look (frz (frz (frz τ1 l) qk.2) q.2) qk.1).bind fun ky => (look (frz (frz (frz τ1 l) qk.2) q.2) q.1).bind fun y => (match keyOf ky with
        | some k => (mDcGo g tt tk tv vs (ds.drop (i + 1)) (mwipe (frz τ1 (l ++ (qk.2 ++ (q.2 ++ slotsOf q.1)))) vs) (putD ys k y)).bind fun z => T.ret (z.1, (l ++ (qk.2 ++ (q.2 ++ slotsOf q.1))) ++ z.2)
        | none => .stop)).wp _ := hgo
      rw [T.wp_bind] at hgo
      refine ⟨F4, _, s5, T.wp_mono hgo fun qk hgo kv F5 H5 s6 g6 rk => ?_⟩
      rw [T.wp_bind] at hgo
      refine ⟨F5, _, s6, T.wp_mono hgo fun q hgo yv F6 H6 s7 g7 ry => ?_⟩
      rw [T.wp_bind] at hgo
      have rkw := (rk.w s5 (H0 := H4) (k := qk.2) fun _ o e => ⟨o, e⟩)
      have rkw2 := rkw.next g7
      obtain ⟨ky, _, vk, hgo⟩ := look_view rkw2 s7 hgo
      rw [T.wp_bind] at hgo
      have rw1 := ry.w s6 (H0 := H5) (k := q.2) fun _ o e => ⟨o, e⟩
      obtain ⟨y, el, _, hgo⟩ := look_view rw1 s7 hgo
      obtain ⟨F7, w7, s8, r8⟩ := esc_rep rw1 s7 el
      split at hgo
      · rename_i k' hk'
        rw [T.wp_bind] at hgo
        have noD4 : NoOwn (frz τ1 l) σV2 Dn := noD.frz
        have noD5 : NoOwn (frz (frz τ1 l) qk.2) σV2 Dn := noD4.frz
        have noD6 : NoOwn (frz (frz (frz τ1 l) qk.2) q.2) σV2 Dn := noD5.frz
        have H5D : H5 Dn = some (.dK acc) := g6.fr _ _ H4D noD4
        have F5D : F5 Dn = none := (g6.nf _ _ H4D noD4).trans F4D
        have H6D : H6 Dn = some (.dK acc) := g7.fr _ _ H5D noD5
        have F6D : F6 Dn = none := (g7.nf _ _ H5D noD5).trans F5D
        have F7D : F7 Dn = none := (w7.2 _ _ H5D noD6).trans F6D
        have th : ∀ a o, H1 a = some o → ∃ u, H5 a = some u := (g15.trans g6).th
        have g16 := (g15.trans g6).trans g7
        have g8 : G F1 (mwipe (frz σ k0) vs) (L2.wipe σV vs) H1 F7 (frz (frz (frz (frz τ1 l) qk.2) q.2) (slotsOf q.1)) σV2 H6 := by
          have w7' := w7.base th
          refine ⟨g16.ff.trans w7.1, fun a o e n => ?_, g16.fr, fun j x a e q' => g16.ow j x a (frz_own e) q', fun j e => ?_, g16.th⟩
          · refine (w7'.2 a o e fun j x hj hV => ?_).trans (g16.nf a o e n)
            rcases g16.ow j x a hj hV with z | z
            · rw [e] at z; cases z
            · exact z n
          · obtain ⟨q1, q2, q3⟩ := g16.pl j e
            exact ⟨frz_pool q1, q2, fun a s hV z => (q3 a s hV z).mono w7.1 fun _ t => t⟩
        have ef : frz (frz (frz (frz τ1 l) qk.2) q.2) (slotsOf q.1) = frz τ1 (l ++ (qk.2 ++ (q.2 ++ slotsOf q.1))) := by rw [frz_append, frz_append, frz_append]
        rw [ef] at s8 g8
        have noD7 : NoOwn (frz τ1 (l ++ (qk.2 ++ (q.2 ++ slotsOf q.1)))) σV2 Dn := noD.frz
        have r5 : RepK K F7 acc (ys.map fun p => (keyD p.1, p.2)) := ((ra4.mono g6.ff).mono g7.ff).mono w7.1
        refine ⟨acc, k', vk.key hk', H6D, by omega, ?_⟩
        refine back (s8.upd F7D noD7) (g8.upd hD) F7D upd_same (Nat.le_trans putK_len (Nat.add_le_add_right hacc 1)) (RepK.put r8 k' r5) (T.wp_mono hgo fun z hz => ?_)
        have hz : ∀ v F' H', Hd K F' H' σV (frz σ (k0 ++ out vs (k ++ ((l ++ (qk.2 ++ (q.2 ++ slotsOf q.1))) ++ z.2)))) → G F σ σV H F' (frz σ (k0 ++ out vs (k ++ ((l ++ (qk.2 ++ (q.2 ++ slotsOf q.1))) ++ z.2)))) σV H' → RR K F' H' σV H v (.o (.dic z.1)) → Q v H' := hz
        rw [← List.append_assoc] at hz
        exact hz
      · exact hgo.elim
  · have e : i = ds.length := by omega
    subst e
    rw [List.drop_length] at hgo
    obtain ⟨s9, g9⟩ := unwipe s1 tout tl s2 g2
    have hgo : ∀ v F' H', Hd K F' H' σV (frz σ (k0 ++ out vs (k ++ []))) → G F σ σV H F' (frz σ (k0 ++ out vs (k ++ []))) σV H' → RR K F' H' σV H v (.o (.dic ys)) → Q v H' := hgo
    rw [List.append_nil, frz_append] at hgo
    exact .inl ⟨it.stop Hc e12, hgo _ F2 Hc s9 (g1.trans g9) (.o (by intro z; cases z) F2D hD0 ⟨acc, HcD, ra⟩)⟩
end
theorem de_dc {X : Cx} {kx vx tg iter : Expr} {pos : Pos} {ifs : List Expr} {scope : Scope} {own : List (Str × Nat)} {mi : MI} {g : MG} {tt : MT} {tk tv : M} {is : List Nat} (hc : X.calm = true) (hN : X.N.Nodup) (hi : DI mi X tg iter) (ok : BlkOk X.N X.env.scope scope own) (his : ∀ i ∈ is, i ∈ own.map (·.2)) (gk : GOk is g)
    (hg : ∀ (s : Shared) (H : Hp) (C : Addr) (cl : List (Str × Addr)) (fp : List Addr), Tg is g (X.blk s H scope (compEnvC scope cl C X.env) fp) tg) (ht : ∀ (s : Shared) (H : Hp) (C : Addr) (cl : List (Str × Addr)) (fp : List Addr), PTs (X.blk s H scope (compEnvC scope cl C X.env) fp) ifs (LT X.K tt))
    (hk : ∀ (s : Shared) (H : Hp) (C : Addr) (cl : List (Str × Addr)) (fp : List Addr), DE tk (X.blk s H scope (compEnvC scope cl C X.env) fp) kx)
    (he : ∀ (s : Shared) (H : Hp) (C : Addr) (cl : List (Str × Addr)) (fp : List Addr), DE tv (X.blk s H scope (compEnvC scope cl C X.env) fp) vx) (hs : ∀ x, foldedSetIterable iter X.env x = pure x := by intro _; rfl) :
    DE (mDc mi g tt tk tv (own.map (·.2))) X (.DictComp kx vx [⟨tg, iter, ifs, 0⟩] scope pos) :=
  ⟨PE.imp (pe_dc hc hN hi.pi ok (fun s H C cl fp => (hg s H C cl fp).pg) ht (fun s H C cl fp => (hk s H C cl fp).pe) (fun s H C cl fp => (he s H C cl fp).pe) hs) fun _ _ _ h => mDc_le his gk h⟩
end DL

namespace DL
open PySem PySem.Spec PyProof.Rows L2
/-! ### list(range(n)), tuple(range(n)) -/
def mLRg (ma : M) : M := fun σ => (ma σ).bind fun p => (look (frz σ p.2) p.1).bind fun d => (rng1 [d]).bind fun l => .ret (.o (.lst l), p.2)
def mTRg (ma : M) : M := fun σ => (ma σ).bind fun p => (look (frz σ p.2) p.1).bind fun d => (rng1 [d]).bind fun l => .ret (.v (.tuple l), p.2)
theorem rng1_wp {d : DL.D} {Q : List DL.D → Prop} (h : (rng1 [d]).wp Q) : ∃ n : Int, d = .int n ∧ big n = true ∧ Q (rngD 0 n.toNat) := by
  cases d with
  | int n =>
    have h : (if big n = true then T.ret (rngD 0 n.toNat) else .stop).wp Q := h
    split at h
    · rename_i hb; exact ⟨n, rfl, hb, h⟩
    · exact h.elim
  | _ => exact h.elim
theorem reps_rg {K : PySem.W.Frag} {F : Hp} (n : Int) : Reps K F (rgV 0 n) (rngD 0 n.toNat) := by
  unfold rgV rngD
  rw [Int.sub_zero]
  generalize List.range n.toNat = l
  induction l with
  | nil => exact .nil
  | cons i l ih => exact .cons (.int _) ih
theorem rgOk_big {n : Int} (h : big n = true) : RgOk 0 n := by
  unfold big at h
  have h := of_decide_eq_true h
  exact ⟨by decide, by decide, by omega, by omega, by omega⟩
section
variable {K : PySem.W.Frag} {H : Hp} {σV : L2.St} {Q : VK} {ma : M}
theorem mLRg_le (h : LE K (mLRg ma) σV H Q) : tLstRg (tRg1 (LE K ma)) σV H Q := by
  obtain ⟨F, σ, s, h⟩ := h
  unfold mLRg at h
  rw [T.wp_bind] at h
  refine ⟨F, σ, s, T.wp_mono h fun p h x F1 H1 s1 g1 r1 => ?_⟩
  rw [T.wp_bind] at h
  obtain ⟨d, _, vw, h⟩ := look_view (r1.w s (H0 := H) (k := p.2) fun _ o e => ⟨o, e⟩) s1 h
  rw [T.wp_bind] at h
  obtain ⟨n, rfl, hb, h⟩ := rng1_wp h
  refine ⟨n, vw.int, rgOk_big hb, fun a ha => ?_⟩
  have gr : Grow F1 H1 F1 (upd H1 a (.lst (rgV 0 n))) := .newO s1.le ha
  have h : ∀ v F' H', Hd K F' H' σV (DL.frz σ p.2) → G F σ σV H F' (DL.frz σ p.2) σV H' → RR K F' H' σV H v (.o (.lst (rngD 0 n.toNat))) → Q v H' := h
  refine h _ _ _ (s1.grow gr) (g1.trans (G.same gr)) (.o (by intro z; cases z) (s1.le.free ha) ?_ ⟨_, upd_same, reps_rg n⟩)
  cases q : H a with
  | none => rfl
  | some o =>
    obtain ⟨u, hu⟩ := g1.th a o q
    rw [ha] at hu; cases hu
theorem mTRg_le (h : LE K (mTRg ma) σV H Q) : tTupRg (tRg1 (LE K ma)) σV H Q := by
  obtain ⟨F, σ, s, h⟩ := h
  unfold mTRg at h
  rw [T.wp_bind] at h
  refine ⟨F, σ, s, T.wp_mono h fun p h x F1 H1 s1 g1 r1 => ?_⟩
  rw [T.wp_bind] at h
  obtain ⟨d, _, vw, h⟩ := look_view (r1.w s (H0 := H) (k := p.2) fun _ o e => ⟨o, e⟩) s1 h
  rw [T.wp_bind] at h
  obtain ⟨n, rfl, hb, h⟩ := rng1_wp h
  refine ⟨n, vw.int, rgOk_big hb, fun a ha => ?_⟩
  have gr : Grow F1 H1 (upd F1 a (.tup (rgV 0 n))) (upd H1 a (.tup (rgV 0 n))) := .new s1.le ha
  have h : ∀ v F' H', Hd K F' H' σV (DL.frz σ p.2) → G F σ σV H F' (DL.frz σ p.2) σV H' → RR K F' H' σV H v (.v (.tuple (rngD 0 n.toNat))) → Q v H' := h
  exact h _ _ _ (s1.grow gr) (g1.trans (G.same gr)) (.v (.tup (.inl (.inl upd_same)) (reps_rg n)))
end
section
variable {X : Cx} {a : Expr} {ma : M} {p1 p2 pos pos2 : Pos}
theorem de_lrg (hc : X.calm = true) (hg : Gl X "list") (hm : X.mg "list" = none) (hg2 : Gl X "range") (hm2 : X.mg "range" = none) (ha : DE ma X a) (na : starEach [a] X.env = (false, eval a X.env) :: starEach [] X.env := by rfl)
    (na2 : starEach [.Call (.Name "range" p2) [a] [] pos2] X.env = (false, eval (.Call (.Name "range" p2) [a] [] pos2) X.env) :: starEach [] X.env := by rfl) : DE (mLRg ma) X (.Call (.Name "list" p1) [.Call (.Name "range" p2) [a] [] pos2] [] pos) :=
  ⟨PE.imp (pe_listRg hc hg hm (prg_1 hg2 hm2 ha.pe na) na2) fun _ _ _ h => mLRg_le h⟩
theorem de_trg (hc : X.calm = true) (hg : Gl X "tuple") (hm : X.mg "tuple" = none) (hg2 : Gl X "range") (hm2 : X.mg "range" = none) (ha : DE ma X a) (na : starEach [a] X.env = (false, eval a X.env) :: starEach [] X.env := by rfl)
    (na2 : starEach [.Call (.Name "range" p2) [a] [] pos2] X.env = (false, eval (.Call (.Name "range" p2) [a] [] pos2) X.env) :: starEach [] X.env := by rfl) : DE (mTRg ma) X (.Call (.Name "tuple" p1) [.Call (.Name "range" p2) [a] [] pos2] [] pos) :=
  ⟨PE.imp (pe_tupRg hc hg hm (prg_1 hg2 hm2 ha.pe na) na2) fun _ _ _ h => mTRg_le h⟩
end
/-! ### range(n) as a value; a walk of it -/
def bRange (ds : List DL.D) : T R := match ds with
  | [.int n] => if big n = true then .ret (.o (.rng 0 n)) else .stop
  | _ => .stop
theorem cd_range {X : Cx} : CallD X (.type "range") bRange := by
  intro pins s σ H xs us Q I r ⟨F, ds, hle, hv, q⟩
  unfold bRange at q
  split at q
  · rename_i n
    split at q
    · obtain ⟨x, rfl, vw⟩ := hv.one
      rw [vw.int] at r
      obtain ⟨u1, rfl, ri⟩ := vals1 r
      obtain ⟨t, rfl⟩ := ri
      have hp : H s.heap.objs.size = none := I.hok.fresh (Nat.le_refl _)
      refine call_range_1 ⟨.ref s.heap.objs.size, upd H s.heap.objs.size (.rng 0 n), I.laid (t' := s.toks + 2) (fun b o e => Heap.get?_push_of_some _ e) (Nat.le_refl _) ?_, rfl, q _ _ _ (.newO hle hp) (.o (by intro z; cases z) (hle.free hp) hp upd_same)⟩
      exact ⟨_, _, _, Heap.get?_push_size _ rfl⟩
    · exact q.elim
  · exact q.elim
def iRg (tl : TE) : TI := fun σ H R => tl σ H fun x H1 => ∃ a lo hi, x = .ref a ∧ H1 a = some (.rng lo hi) ∧ (-(2 ^ 62) ≤ lo ∧ lo < 2 ^ 62 ∧ -(2 ^ 62) ≤ hi ∧ hi < 2 ^ 62) ∧ R (Itr lo (hi - lo).toNat) H1
theorem pi_rgv {X : Cx} {tg l : Expr} {tl : TE} (hl : PE X l tl) : PI X tg l (iRg tl) := by
  refine ⟨fun pins s σ H R I h => ?_⟩
  refine thn (hl.run pins s σ H _ I h) fun v s1 ⟨x, H1, I1, r1, a, lo, hi, e, ha, ⟨b1, b2, b3, b4⟩, q⟩ => ?_
  subst e
  obtain rfl : v = Value.ref a := r1
  obtain ⟨t, u, w, ho⟩ := I1.hok a _ ha
  refine wpAny_pyIter_range (t := t) (u := u) (v := w) ho (small_one b1 b2 b3 b4) ?_
  refine ⟨s1.heap.objs.size, [s1.heap.objs.size], _, _, H1, rfl, I1.kept (t' := s1.toks) fun b o e => Heap.get?_push_of_some _ e, turn_range _ lo (hi - lo).toNat, ?_, fun b hb => ?_, q⟩
  · have e1 : lo + ((0 : Nat) : Int) * 1 = lo := by simp
    have e2 : (((hi - lo).toNat : Nat) : Int) - ((0 : Nat) : Int) = Builtin.Range.rangeSize lo hi 1 := by rw [rangeSize_one]; split <;> omega
    show IsRangeIter _ _ (lo + ((0 : Nat) : Int) * 1) ((((hi - lo).toNat : Nat) : Int) - ((0 : Nat) : Int)) 1
    rw [e1, e2]
    exact Heap.get?_push_size _ rfl
  · have e : b = s1.heap.objs.size := by simpa using hb
    subst e
    exact I1.fpOk (Nat.le_refl _) (I1.hok.fresh (Nat.le_refl _))
/-- walk a variable that holds a range -/
def iVarR (i : Nat) : MI := fun σ => match σ[i]? with
  | some (.o (.rng lo hi)) => if big lo = true ∧ big hi = true then .ret (rngD lo (hi - lo).toNat, []) else .stop
  | _ => .stop
theorem di_rgv {X : Cx} {tg : Expr} {x : Str} {p : Pos} (i : Nat) (hN : X.N[i]? = some x := by rfl) (hv : Vis X.env.scope x := by first | exact Or.inl rfl | exact Or.inr (Or.inl rfl) | exact Or.inr (Or.inr rfl)) (hd : (x == ("__debug__" : Str)) = false := by decide) (hcd : (x == ("__classdict__" : Str)) = false := by decide) :
    DI (iVarR i) X tg (.Name x p) := by
  refine ⟨PI.imp (pi_rgv (pe_var hN hv hd hcd)) fun σV H R q => ?_⟩
  obtain ⟨F, σ, s, q⟩ := q
  unfold iVarR at q
  split at q
  · rename_i lo hi e
    split at q
    · rename_i hb
      obtain ⟨a, hV, hF, ho⟩ := s.own i _ e
      obtain ⟨b1, b2⟩ := big_of hb.1
      obtain ⟨b3, b4⟩ := big_of hb.2
      exact ⟨.ref a, hV, a, lo, hi, rfl, ho, ⟨b1, b2, b3, b4⟩, q _ F H s G.refl ItOk.range⟩
    · exact q.elim
  · exact q.elim
end DL

namespace PL
open PySem PySem.Spec PyProof.Rows L2 DL
section
variable {α S S1 S2 ρ : Type} {κ : Kd α} {π π' : List Pt} {m mk mt' : M} {i : Nat} {ms : MA}
def putKP (kvs : List (Key × DL.D)) (p pk : T DL.D) : T (List (Key × DL.D)) := p.bind fun d => pk.bind fun k => match keyOf k with
  | some k => chk (kvs.length + 1) (.ret (putD kvs k d))
  | none => .stop
theorem pn_putK {kvs : List (Key × DL.D)} {p pk : T DL.D} (e : π[i]? = some (.k kvs)) (h : PS π m p) (hk : PO π mk pk) : PN π (sPutD i mk m) (putKP kvs p pk) (fun l => π.set i (.k l)) := fun σ hm => by
  unfold sPutD
  refine (h σ hm).bind fun a q e' => ?_
  have hm' := hm.frz e'.2
  rw [e'.1.1 _ hm', bind_r]
  have hm2 := hm'.frz e'.1.2
  obtain ⟨s, h1, h2⟩ := hm2.get e
  cases h2
  have o2 : ownK (DL.frz (DL.frz σ q.2) (slotsOf q.1)) i = .ret kvs := by unfold ownK; rw [h1]
  rw [o2, bind_r]
  refine (hk _ hm2).bind fun k t et => ?_
  have hm3 := hm2.frz et.2
  rw [et.1 _ hm3, bind_r]
  cases hkk : keyOf k with
  | some k' =>
    obtain ⟨s, h1, h2⟩ := hm3.get e
    cases h2
    have o3 : ownK (DL.frz (DL.frz (DL.frz σ q.2) (slotsOf q.1)) t.2) i = .ret kvs := by unfold ownK; rw [h1]
    show Rl (fun l (q : Fl × DL.Env) => q.1 = .nx ∧ Mat (π.set i (.k l)) q.2) (chk (kvs.length + 1) (.ret (putD kvs k' a))) ((ownK (DL.frz (DL.frz (DL.frz σ q.2) (slotsOf q.1)) t.2) i).bind _)
    rw [o3, bind_r]
    unfold chk
    split
    · exact .ret ⟨rfl, hm3.set i (.k _)⟩
    · exact .stop
  | none => exact .stop
def extP (ds : List DL.D) (p : T DL.D) : T (List DL.D) := p.bind fun d => (listD d).bind fun es => chk (ds.length + es.length) (.ret (ds ++ es))
theorem pn_ext {ds : List DL.D} {p : T DL.D} (e : π[i]? = some (.l ds)) (h : PO π m p) : PN π (sExt i m) (extP ds p) (fun l => π.set i (.l l)) := fun σ hm => by
  obtain ⟨s, h1, h2⟩ := hm.get e
  cases h2
  have o1 : ownL σ i = .ret ds := by unfold ownL; rw [h1]
  unfold sExt
  rw [o1, bind_r]
  refine (h σ hm).bind fun a q e' => ?_
  have hm' := hm.frz e'.2
  rw [e'.1 _ hm', bind_r]
  refine (Rl.eq (listD a)).bind fun es es' ee => ?_
  subst ee
  obtain ⟨s, h1, h2⟩ := hm'.get e
  cases h2
  have o2 : ownL (DL.frz σ q.2) i = .ret ds := by unfold ownL; rw [h1]
  rw [o2, bind_r]
  unfold chk
  split
  · exact .ret ⟨rfl, hm'.set i (.l _)⟩
  · exact .stop
def popP (ds : List DL.D) : T (List DL.D) := if ds.isEmpty = true then .stop else .ret ds.dropLast
theorem pn_pop {ds : List DL.D} (e : π[i]? = some (.l ds)) : PN π (sPop i) (popP ds) (fun l => π.set i (.l l)) := fun σ hm => by
  obtain ⟨s, h1, h2⟩ := hm.get e
  cases h2
  have o1 : ownL σ i = .ret ds := by unfold ownL; rw [h1]
  unfold sPop popP
  rw [o1, bind_r]
  split
  · exact .stop
  · exact .ret ⟨rfl, hm.set i (.l _)⟩
/-- a call that answers yes or no: own ones stay own -/
theorem pe_callA {pf : List DL.D → T Bool} {mf : List Sl → T R} {ps : T (List DL.D)} (F : ∀ l, Rl KB.rel (pf l) (mf (l.map Sl.v))) (h : PA π ms ps) : PE π (mCall mf ms) KB (call pf ps) := fun σ hm =>
  (h σ hm).bind fun l q e => by
    rw [argsOf_of e.1 (hm.frz e.2), bind_r, one_le (by rw [pools_v]; decide)]
    refine (F l).bindR fun a r hr => .ret ⟨hr, ?_⟩
    rw [show r = .v (.bool a) from hr]
    exact e.2
/-! {k: v for x in l if c} -/
def eachK {ι : Type} (F : ι → T S) (t : S → T Bool) (ek ev : S → T DL.D) : List ι → List (Key × DL.D) → T (List (Key × DL.D))
  | [], acc => .ret acc
  | d :: ds, acc => (F d).bind fun s => (t s).bind fun b => if b = true then (ek s).bind fun k => (ev s).bind fun y => (match keyOf k with | some k => eachK F t ek ev ds (putD acc k y) | none => .stop) else eachK F t ek ev ds acc
def dcP (F : DL.D → T S) (t : S → T Bool) (ek ev : S → T DL.D) (pi : T (List DL.D)) : T (List (Key × DL.D)) := pi.bind fun ds => chk ds.length (eachK F t ek ev ds [])
theorem pe_dc {mi : MI} {g : MG} {vs : List Nat} {pi : T (List DL.D)} {F : DL.D → T S} {po : S → List Pt} {t : S → T Bool} {ek ev : S → T DL.D} {mt : MT} {tk tv : M} (hi : PI π mi pi) (hg : PGt (wipeP π vs) g F po) (ht : ∀ s, PTt (po s) mt (t s)) (hk : ∀ s, PO (po s) tk (ek s)) (he : ∀ s, PS (po s) tv (ev s)) (hw : ∀ s, wipeP (po s) vs = wipeP π vs) :
    PE π (mDc mi g mt tk tv vs) KK (dcP F t ek ev pi) := by
  have kp : ∀ {s : S} {k : List Nat}, kept (po s) k → ∀ i ∈ k, i ∉ vs → ∀ p, π[i]? = some p → p.own = false := fun {s k} h i hi hv p hp => by
    refine h i hi p ?_
    rw [← hp, ← wipeP_out (π := π) hv, ← hw s, wipeP_out hv]
  have go : ∀ (ds : List DL.D) (acc : List (Key × DL.D)) (σ : DL.Env), Mat (wipeP π vs) σ → Rl (fun l (z : List (Key × DL.D) × List Nat) => z.1 = l ∧ ∀ i ∈ z.2, i ∉ vs → ∀ p, π[i]? = some p → p.own = false) (eachK F t ek ev ds acc) (mDcGo g mt tk tv vs ds σ acc) := by
    intro ds
    induction ds with
    | nil => intro acc σ _; exact .ret ⟨rfl, fun _ z => nomatch z⟩
    | cons d ds ih =>
      intro acc σ hm
      refine (hg d σ hm).bind fun s σ1 h1 => (ht s σ1 h1).bind fun b q hq => ?_
      obtain ⟨b', k⟩ := q
      obtain ⟨e1, k1⟩ := hq
      have e1 : b' = b := e1
      have k1 : kept (po s) k := k1
      subst e1
      have h2 := h1.frz k1
      cases b'
      · have w := wipe_mat h2 vs
        rw [hw s] at w
        refine (ih acc _ w).bindR fun l z hz => .ret ⟨hz.1, fun i hi => ?_⟩
        rcases List.mem_append.mp hi with hi | hi
        · exact kp k1 i hi
        · exact hz.2 i hi
      · refine (hk s _ h2).bind fun ky qk hqk => ?_
        have h3 := h2.frz hqk.2
        refine (he s _ h3).bind fun y q hq => ?_
        have h4 := h3.frz hq.2
        rw [hqk.1 _ h4, bind_r, hq.1.1 _ h4, bind_r]
        cases hky : keyOf ky with
        | none => exact .stop
        | some k' =>
          have k2 : kept (po s) (k ++ (qk.2 ++ (q.2 ++ slotsOf q.1))) := k1.app (hqk.2.app (hq.2.app hq.1.2))
          have w := wipe_mat (h1.frz k2) vs
          rw [hw s] at w
          refine (ih _ _ w).bindR fun l z hz => .ret ⟨hz.1, fun i hi => ?_⟩
          rcases List.mem_append.mp hi with hi | hi
          · exact kp k2 i hi
          · exact hz.2 i hi
  intro σ hm
  refine (hi σ hm).bind fun ds q hq => ?_
  obtain ⟨ds', k⟩ := q
  obtain ⟨e1, k1⟩ := hq
  have e1 : ds' = ds := e1
  have k1 : kept π k := k1
  subst e1
  show Rl _ (chk ds'.length _) (chk ds'.length _)
  unfold chk
  split
  · refine (go ds' [] _ (wipe_mat (hm.frz k1) vs)).bindR fun l z hz => .ret ⟨by rw [hz.1]; rfl, k1.app fun i hi p hp => ?_⟩
    have hi' := List.mem_filter.mp hi
    exact hz.2 i hi'.1 (by simpa using hi'.2) p hp
  · exact .stop
/-! ranges -/
def rgP (p : T DL.D) : T Int := p.bind fun d => match d with
  | .int n => if big n = true then .ret n else .stop
  | _ => .stop
theorem pn_setRg {p : T DL.D} {ma : M} (h : PO π ma p) (w : wrP π i = true) : PN π (sSet i (mB bRange (mCons ma mNil))) (rgP p) (fun n => π.set i (.rg 0 n)) := fun σ hm => by
  have q := (pe_b (κ := KV) (f := bRange) (pa_cons h pa_nil)) σ hm
  show Rl _ (rgP p) ((mB bRange (mCons ma mNil) σ).bind fun p => stor i (DL.frz σ p.2) p.1)
  unfold mB mCons mNil
  rw [T.bind_assoc, T.bind_assoc]
  refine (h σ hm).bind fun d r e => ?_
  have hm' := hm.frz e.2
  rw [bind_r, bind_r]
  show Rl _ _ (((looks (DL.frz σ (r.2 ++ [])) [r.1]).bind fun ds => (bRange ds).bind fun r' => T.ret (r', r.2 ++ [])).bind _)
  rw [List.append_nil]
  have lk : looks (DL.frz σ r.2) [r.1] = .ret [d] := by
    show (look (DL.frz σ r.2) r.1).bind _ = _
    rw [e.1 _ hm']; rfl
  rw [lk, bind_r]
  cases d with
  | int n =>
    show Rl _ (if big n = true then T.ret n else .stop) (((if big n = true then T.ret (R.o (.rng 0 n)) else .stop).bind fun r' => T.ret (r', r.2)).bind _)
    split
    · obtain ⟨s0, h0, hw⟩ := wrP_get w hm'
      show Rl _ _ (stor i (DL.frz σ r.2) (.o (.rng 0 n)))
      rw [stor_of rfl h0 hw]
      exact .ret ⟨rfl, hm'.set i (.rg _ _)⟩
    · exact .stop
  | _ => exact .stop
def rgI (lo hi : Int) : T (List DL.D) := if big lo = true ∧ big hi = true then .ret (rngD lo (hi - lo).toNat) else .stop
theorem pi_rgv {lo hi : Int} (e : π[i]? = some (.rg lo hi)) : PI π (iVarR i) (rgI lo hi) := fun σ hm => by
  obtain ⟨s, h1, h2⟩ := hm.get e
  cases h2
  unfold iVarR rgI
  rw [h1]
  show Rl _ _ (if big lo = true ∧ big hi = true then _ else _)
  split
  · exact .ret ⟨rfl, kept.nil⟩
  · exact .stop
def lrgP (p : T DL.D) : T (List DL.D) := p.bind fun d => rng1 [d]
theorem pe_lrg {p : T DL.D} {ma : M} (h : PO π ma p) : PE π (mLRg ma) KL (lrgP p) := fun σ hm =>
  (h σ hm).bind fun d q e => by
    rw [e.1 _ (hm.frz e.2), bind_r]
    exact (Rl.eq (rng1 [d])).bindR fun l l' el => by subst el; exact .ret ⟨rfl, e.2⟩
def trgP (p : T DL.D) : T DL.D := p.bind fun d => (rng1 [d]).bind fun l => .ret (.tuple l)
theorem pe_trg {p : T DL.D} {ma : M} (h : PO π ma p) : PE π (mTRg ma) KV (trgP p) := fun σ hm =>
  (h σ hm).bind fun d q e => by
    rw [e.1 _ (hm.frz e.2), bind_r]
    exact (Rl.eq (rng1 [d])).bind fun l l' el => by subst el; exact .ret ⟨rfl, e.2⟩
end
end PL

namespace PL
open PySem PySem.Spec PyProof.Rows L2 DL
open DL.Sc
/-! ### reading plain functions -/
theorem kv_of {d : DL.D} : KV.of (.v d) = .ret d := rfl
theorem kb_of {b : Bool} : KB.of (.v (.bool b)) = .ret b := rfl
theorem kl_of {l : List DL.D} : KL.of (.o (.lst l)) = .ret l := rfl
theorem kk_of {l : List (Key × DL.D)} : KK.of (.o (.dic l)) = .ret l := rfl
theorem kf_v {d : DL.D} : KF.of (.v d) = .ret d := rfl
theorem kf_l {l : List DL.D} : KF.of (.o (.lst l)) = .ret (.list l) := rfl
theorem kk_val {l : List (Key × DL.D)} : KK.val l = .dict (l.map fun p => (keyD p.1, p.2)) := rfl
theorem p_vb {b : Bool} : vbP (.ret (.bool b)) = .ret b := rfl
theorem isn_none : isNone .none = true := rfl
theorem isn_int {i : Int} : isNone (.int i) = false := rfl
theorem isn_bool {i : Bool} : isNone (.bool i) = false := rfl
theorem isn_str {i : Str} : isNone (.str i) = false := rfl
theorem isn_tup {i : List DL.D} : isNone (.tuple i) = false := rfl
theorem isn_lst {i : List DL.D} : isNone (.list i) = false := rfl
theorem isn_dict {i : List (DL.D × DL.D)} : isNone (.dict i) = false := rfl
theorem asI_i {i : Int} : asI (.int i) = .ret (some i) := rfl
theorem each_nil {ι S : Type} {F : ι → T S} {t : S → T Bool} {e : S → T DL.D} : each F t e [] = .ret [] := rfl
theorem each_cons {ι S : Type} {F : ι → T S} {t : S → T Bool} {e : S → T DL.D} {d : ι} {ds : List ι} : each F t e (d :: ds) = (F d).bind fun s => (t s).bind fun b => if b = true then (e s).bind fun y => (each F t e ds).bind fun l => .ret (y :: l) else each F t e ds := rfl
/-- the workhorse: each item is kept or not -/
theorem each_ret {ι S : Type} {F : ι → T S} {t : S → T Bool} {e : S → T DL.D} {s : ι → S} {c : ι → Bool} {g : ι → DL.D} : ∀ (l : List ι), (∀ a ∈ l, F a = .ret (s a)) → (∀ a ∈ l, t (s a) = .ret (c a)) → (∀ a ∈ l, c a = true → e (s a) = .ret (g a)) → each F t e l = .ret ((l.filter c).map g) := by
  intro l
  induction l with
  | nil => intro _ _ _; rfl
  | cons a l ih =>
    intro h1 h2 h3
    have ih := ih (fun x hx => h1 x (List.mem_cons_of_mem _ hx)) (fun x hx => h2 x (List.mem_cons_of_mem _ hx)) fun x hx => h3 x (List.mem_cons_of_mem _ hx)
    have a1 := h1 a (List.mem_cons_self ..)
    have a2 := h2 a (List.mem_cons_self ..)
    rw [each_cons, a1, bind_r, a2, bind_r]
    by_cases hc : c a = true
    · rw [if_pos hc, h3 a (List.mem_cons_self ..) hc, bind_r, ih, bind_r, List.filter_cons_of_pos hc]; rfl
    · rw [if_neg hc, ih, List.filter_cons_of_neg hc]
/-- all are kept -/
theorem each_all {ι S : Type} {F : ι → T S} {e : S → T DL.D} {s : ι → S} {g : ι → DL.D} (l : List ι) (h1 : ∀ a ∈ l, F a = .ret (s a)) (h3 : ∀ a ∈ l, e (s a) = .ret (g a)) : each F (fun _ => .ret true) e l = .ret (l.map g) := by
  rw [each_ret (c := fun _ => true) l h1 (fun _ _ => rfl) fun a ha _ => h3 a ha, filt_all]
theorem each_map {ι κ S : Type} {F : ι → T S} {t : S → T Bool} {e : S → T DL.D} {φ : κ → ι} (l : List κ) : each F t e (l.map φ) = each (fun a => F (φ a)) t e l := by
  induction l with
  | nil => rfl
  | cons a l ih => rw [List.map_cons, each_cons, each_cons, ih]
theorem each_wp {ι S : Type} {F : ι → T S} {e : S → T DL.D} {P : DL.D → Prop} : ∀ (l : List ι), (∀ a ∈ l, (F a).wp fun s => (e s).wp P) → (each F (fun _ => .ret true) e l).wp fun r => r.length = l.length ∧ ∀ y ∈ r, P y := by
  intro l
  induction l with
  | nil => intro _; exact ⟨rfl, fun _ z => nomatch z⟩
  | cons a l ih =>
    intro h
    have ih := ih fun x hx => h x (List.mem_cons_of_mem _ hx)
    rw [each_cons, T.wp_bind]
    refine T.wp_mono (h a (List.mem_cons_self ..)) fun s hs => ?_
    rw [bind_r, if_pos rfl, T.wp_bind]
    refine T.wp_mono hs fun y hy => ?_
    rw [T.wp_bind]
    refine T.wp_mono ih fun r hr => ⟨by rw [List.length_cons, List.length_cons, hr.1], fun z hz => ?_⟩
    rcases List.mem_cons.mp hz with rfl | hz
    · exact hy
    · exact hr.2 z hz
/-! loops -/
theorem forN_map {ι κ S U : Type} {F : ι → T U} {f : S → U → T S} {φ : κ → ι} (l : List κ) (s : S) : forN F f s (l.map φ) = forN (fun a => F (φ a)) f s l := by
  induction l generalizing s with
  | nil => rfl
  | cons a l ih =>
    show (F (φ a)).bind _ = (F (φ a)).bind _
    congr 1; funext u
    congr 1; funext s'
    exact ih s'
theorem forB_map {ι κ S S' U ρ : Type} {F : ι → T U} {f : S → U → T (Ct S S ρ)} {φ : κ → ι} (l : List κ) (s : S) : forB (S' := S') F f s (l.map φ) = forB (fun a => F (φ a)) f s l := by
  induction l generalizing s with
  | nil => rfl
  | cons a l ih =>
    show (F (φ a)).bind _ = (F (φ a)).bind _
    congr 1; funext u
    congr 1; funext c
    cases c with
    | nx s' => exact ih s'
    | ct s' => exact ih s'
    | bk _ => rfl
    | rt _ => rfl
theorem forN_nil {ι S U : Type} {F : ι → T U} {f : S → U → T S} {s : S} : forN F f s [] = .ret s := rfl
theorem forN_cons {ι S U : Type} {F : ι → T U} {f : S → U → T S} {s : S} {d : ι} {ds : List ι} : forN F f s (d :: ds) = (F d).bind fun u => (f s u).bind fun s' => forN F f s' ds := rfl
theorem forB_nil {ι S S' U ρ : Type} {F : ι → T U} {f : S → U → T (Ct S S ρ)} {s : S} : forB (S' := S') F f s [] = .ret (.nx s) := rfl
theorem forB_cons {ι S S' U ρ : Type} {F : ι → T U} {f : S → U → T (Ct S S ρ)} {s : S} {d : ι} {ds : List ι} : forB (S' := S') F f s (d :: ds) = (F d).bind fun u => (f s u).bind fun c => match c with
    | .nx s' => forB F f s' ds
    | .ct s' => forB F f s' ds
    | .bk s' => .ret (.nx s')
    | .rt x => .ret (.rt x) := rfl
/-- a fold -/
theorem forN_ret {ι S U : Type} {F : ι → T U} {f : S → U → T S} (I : S → Prop) (g : S → ι → S) : ∀ (l : List ι) (s : S), I s → (∀ a ∈ l, ∀ s, I s → ((F a).bind fun u => f s u) = .ret (g s a) ∧ I (g s a)) → forN F f s l = .ret (l.foldl g s) ∧ I (l.foldl g s) := by
  intro l
  induction l with
  | nil => intro s h _; exact ⟨rfl, h⟩
  | cons a l ih =>
    intro s hs h
    obtain ⟨h1, h2⟩ := h a (List.mem_cons_self ..) s hs
    have := ih (g s a) h2 fun x hx => h x (List.mem_cons_of_mem _ hx)
    rw [forN_cons, ← T.bind_assoc, h1, bind_r]
    exact this
theorem forN_wp {ι S U : Type} {F : ι → T U} {f : S → U → T S} (I : S → Prop) : ∀ (l : List ι) (s : S), I s → (∀ a ∈ l, ∀ s, I s → (F a).wp fun u => (f s u).wp I) → (forN F f s l).wp I := by
  intro l
  induction l with
  | nil => intro s h _; exact h
  | cons a l ih =>
    intro s hs h
    rw [forN_cons, T.wp_bind]
    refine T.wp_mono (h a (List.mem_cons_self ..) s hs) fun u hu => ?_
    rw [T.wp_bind]
    exact T.wp_mono hu fun s' hs' => ih s' hs' fun x hx => h x (List.mem_cons_of_mem _ hx)
/-- with the number of turns -/
theorem forN_wpI {ι S U : Type} {F : ι → T U} {f : S → U → T S} (I : Nat → S → Prop) : ∀ (l : List ι) (n : Nat) (s : S), I n s → (∀ a ∈ l, ∀ n s, I n s → (F a).wp fun u => (f s u).wp (I (n + 1))) → (forN F f s l).wp (I (n + l.length)) := by
  intro l
  induction l with
  | nil => intro n s h _; exact h
  | cons a l ih =>
    intro n s hs h
    rw [forN_cons, T.wp_bind]
    refine T.wp_mono (h a (List.mem_cons_self ..) n s hs) fun u hu => ?_
    rw [T.wp_bind]
    refine T.wp_mono hu fun s' hs' => ?_
    have := ih (n + 1) s' hs' fun x hx => h x (List.mem_cons_of_mem _ hx)
    rwa [show n + (a :: l).length = n + 1 + l.length by rw [List.length_cons]; omega]
theorem forN_wpN {ι S U : Type} {F : ι → T U} {f : S → U → T S} (I : Nat → S → Prop) (N : Nat) : ∀ (l : List ι) (n : Nat) (s : S), n + l.length ≤ N → I n s → (∀ a ∈ l, ∀ n s, n < N → I n s → (F a).wp fun u => (f s u).wp (I (n + 1))) → (forN F f s l).wp (I (n + l.length)) := by
  intro l
  induction l with
  | nil => intro n s _ h _; exact h
  | cons a l ih =>
    intro n s hN hs h
    rw [List.length_cons] at hN
    rw [forN_cons, T.wp_bind]
    refine T.wp_mono (h a (List.mem_cons_self ..) n s (by omega) hs) fun u hu => ?_
    rw [T.wp_bind]
    refine T.wp_mono hu fun s' hs' => ?_
    have := ih (n + 1) s' (by omega) hs' fun x hx => h x (List.mem_cons_of_mem _ hx)
    rwa [show n + (a :: l).length = n + 1 + l.length by rw [List.length_cons]; omega]
theorem forB_wp {ι S S' U ρ : Type} {F : ι → T U} {f : S → U → T (Ct S S ρ)} (I : S → Prop) : ∀ (l : List ι) (s : S), I s → (∀ a ∈ l, ∀ s, I s → (F a).wp fun u => (f s u).wp fun c => ∃ s', c = .nx s' ∧ I s') → (forB (S' := S') F f s l).wp fun c => ∃ s', c = .nx s' ∧ I s' := by
  intro l
  induction l with
  | nil => intro s h _; exact ⟨s, rfl, h⟩
  | cons a l ih =>
    intro s hs h
    rw [forB_cons, T.wp_bind]
    refine T.wp_mono (h a (List.mem_cons_self ..) s hs) fun u hu => ?_
    rw [T.wp_bind]
    refine T.wp_mono hu fun c ⟨s', e, hs'⟩ => ?_
    subst e
    exact ih s' hs' fun x hx => h x (List.mem_cons_of_mem _ hx)
/-! what the mirror gives, as a plain function -/
def ofM {α : Type} (κ : Kd α) (t : T R) : T α := t.bind κ.of
theorem rl_ofM {α : Type} (κ : Kd α) (t : T R) : Rl κ.rel (ofM κ t) t := by
  unfold ofM
  have := (Rl.eq t).bind (f := κ.of) (g := .ret) (Ψ := κ.rel) fun a b e => by subst e; exact κ.fo a
  rwa [T.bind_id] at this
theorem Rl.v {d : DL.D} {m : T R} {p : T DL.D} (h : Rl KV.rel p m) (e : p = .ret d) : m = .ret (.v d) := by
  subst e; obtain ⟨b, h1, h2⟩ := h.ret_inv; rw [h1, show b = .v d from h2]
theorem Rl.b {d : Bool} {m : T R} {p : T Bool} (h : Rl KB.rel p m) (e : p = .ret d) : m = .ret (.v (.bool d)) := by
  subst e; obtain ⟨b, h1, h2⟩ := h.ret_inv; rw [h1, show b = .v (.bool d) from h2]
theorem rl_bv {m : T R} {p : T Bool} (h : Rl KB.rel p m) : Rl KV.rel (bvP p) m := by
  unfold bvP
  rw [show m = m.bind .ret from (T.bind_id _).symm]
  exact h.bind fun a b e => .ret e
theorem rl_vb {m : T R} {p : T DL.D} (h : Rl KV.rel p m) : Rl KB.rel (vbP p) m := by
  unfold vbP
  rw [show m = m.bind .ret from (T.bind_id _).symm]
  exact h.bind fun a b e => by cases a with | bool _ => exact .ret e | _ => exact .stop
theorem rl_vf {m : T R} {p : T DL.D} (h : Rl KV.rel p m) : Rl KF.rel p m := h.mono fun _ _ e => .inl e
/-! the frame's own helpers -/
@[irreducible] def h_same (a b : DL.D) : T Bool := ofM KB (m_law_same 150 [.v a, .v b])
theorem hf_same (a b : DL.D) : Rl KB.rel (h_same a b) (m_law_same 150 [.v a, .v b]) := by unfold h_same; exact rl_ofM _ _
theorem h_same_eq {B h : Nat} {d : DL.D} (q : Bd B h d) (hh : h < 150) (hw : wt d ≤ 100000) : h_same d d = .ret true := by
  unfold h_same ofM
  rw [same_self 150 h d q hh hw]; rfl
@[irreducible] def h_bent (a : DL.D) : T DL.D := ofM KF (m_law_bent 150 [.o .pool, .v a])
theorem hf_bent (a : DL.D) : Rl KF.rel (h_bent a) (m_law_bent 150 [.o .pool, .v a]) := by unfold h_bent; exact rl_ofM _ _
theorem wp_ofF {t : T R} {P : DL.D → Prop} (h : t.wp (RP P)) : (ofM KF t).wp P := by
  unfold ofM
  rw [T.wp_bind]
  refine T.wp_mono h fun r hr => ?_
  cases r with
  | v d => exact hr
  | o x =>
    obtain ⟨d, e, q⟩ := hr
    show (match x.toD with | some d => T.ret d | none => .stop).wp P
    rw [e]; exact q
  | s _ => exact hr
theorem h_bent_wp {B h : Nat} {d : DL.D} (hB : B + 2 < 2 ^ 64) (q : Bd B h d) (hh : h ≤ 100) (hw : wt d ≤ 5000) : (h_bent d).wp Fine := by
  unfold h_bent
  exact T.wp_mono (wp_ofF (bent_wp B 150 h d q (by omega) (by omega))) fun y p => p.1.fine (B := B + 2) hB (by omega) (by have := p.2; omega)
@[irreducible] def h_listed (a b : DL.D) : T DL.D := ofM KF (m_law_listed 150 [.v a, .v b])
theorem hf_listed (a b : DL.D) : Rl KF.rel (h_listed a b) (m_law_listed 150 [.v a, .v b]) := by unfold h_listed; exact rl_ofM _ _
theorem h_listed_wp {B h : Nat} {d : DL.D} {j : Int} (hB : B < 2 ^ 64) (q : Bd B h d) (hh : h ≤ 100) (hw : wt d ≤ 5000) : (h_listed d (.int j)).wp Fine := by
  unfold h_listed
  exact T.wp_mono (wp_ofF (listed_wp 150 h d j q (by omega) (by omega))) fun y p => p.1.fine hB (by omega) (by have := p.2; omega)
@[irreducible] def h_booled (a : DL.D) : T DL.D := ofM KV (m_law_booled 150 [.v a])
theorem hf_booled (a : DL.D) : Rl KV.rel (h_booled a) (m_law_booled 150 [.v a]) := by unfold h_booled; exact rl_ofM _ _
theorem h_booled_wp {B h : Nat} {d : DL.D} (hB : B < 2 ^ 64) (q : Bd B h d) (hh : h ≤ 100) (hw : wt d ≤ 5000) : (h_booled d).wp Fine := by
  unfold h_booled ofM
  rw [T.wp_bind]
  refine T.wp_mono (booled_wp 150 h d q (by omega) (by omega)) fun r ⟨y, e, p⟩ => ?_
  subst e
  exact p.1.fine hB (by omega) (by have := p.2; omega)
@[irreducible] def h_odd : T (List DL.D) := ofM KL (m_law_odd_values [])
theorem hf_odd : Rl KL.rel h_odd (m_law_odd_values []) := by unfold h_odd; exact rl_ofM _ _
theorem h_odd_eq : h_odd = .ret oddL := by
  unfold h_odd ofM
  rw [odd_values]; rfl
end PL

set_option pp.maxSteps 400
namespace PL
open PySem PySem.Spec PyProof.Rows L2 DL
open DL.Sc
/-- the laws' own walk, by the parts in which they differ -/
def lawH (no : Int) (mq myes mpa mf mho mfa mqu mlq : List Sl → T R) (w1 w2 : Str) (ex : MS) : MS := (sSeq (sFor (iRngM rng1 (mCons (mC (.int no)) mNil)) (gSet 2) (sSeq (sSet 3 (mCall mq (mCons (mVar 1) mNil)))
    (sSeq (sSet 4 (mCall myes (mCons (mVar 3) mNil)))
    (sSeq (sSet 5 (mCall mpa (mCons (mVar 3) mNil)))
    (sSeq (sIf (tOrM (tOf (mBin dIsNot (mCall mf (mCons (mVar 3) (mCons (mVar 5) mNil))) (mC .none))) (tNotM (tOf (mCall (m_law_same 150) (mCons (mLst (mCons (mCall mho (mCons (mVar 3) mNil)) (mCons (mBin dIx (mVar 5) (mC (.int 0))) mNil))) (mCons (mLst (mCons (mVar 4) (mCons (mIf (tOf (mVar 4)) (mC (.str w1)) (mC (.str w2))) mNil))) mNil)))))) (sRet (mC (.bool false))) sNext)
    (sSeq (sSet 6 (mCall mpa (mCons (mCall mq (mCons (mVar 1) mNil)) mNil)))
    (sSeq (sSet 7 (mLst (mCons (mVar 5) (mCons (mVar 6) (mCons (mB bList (mCons (mVar 5) mNil)) (mCons (mCall (m_law_listed 150) (mCons (mVar 5) (mCons (mC (.int 1)) mNil))) (mCons (mCall (m_law_listed 150) (mCons (mVar 5) (mCons (mC (.int 2)) mNil))) (mCons (mCall (m_law_booled 150) (mCons (mVar 5) mNil)) (mCons (mSl (mVar 5) oNone (oSome (mC (.int 1)))) (mCons (mBin dAdd (mVar 5) (mTup (mCons (mTup mNil) mNil))) (mCons (mBin dAdd (mTup (mCons (mC .none) mNil)) (mSl (mVar 5) (oSome (mC (.int 1))) oNone)) mNil)))))))))))
    (sSeq (sSet 7 (mBin dAdd (mVar 7) (mLst (mCons (mBin dAdd (mTup (mCons (mC (.str w1)) mNil)) (mSl (mVar 5) (oSome (mC (.int 1))) oNone)) (mCons (mBin dAdd (mTup (mCons (mC (.str w2)) mNil)) (mSl (mVar 5) (oSome (mC (.int 1))) oNone)) (mCons (mTup (mCons (mC (.str w1)) (mCons (mTup mNil) mNil))) (mCons (mTup (mCons (mC (.str w2)) (mCons (mTup mNil) mNil))) mNil)))))))
    (sSeq ex
    (sSeq (sFor (iSeq (mBin dAdd (mBin dAdd (mVar 7) (mCall m_law_odd_values mNil)) (mLc (iRngM rng1 (mCons (mC (.int 10)) mNil)) (gSet 8) tYesM (mCall (m_law_bent 150) (mCons (mVar 1) (mCons (mVar 5) mNil))) [8]))) (gSet 9) (sSeq (sSet 10 (mB bRepr (mCons (mVar 9) mNil)))
    (sIf (tOrM (tNotM (tOf (mCall (m_law_same 150) (mCons (mCall mfa (mCons (mVar 3) (mCons (mVar 9) mNil))) (mCons (mCall mf (mCons (mVar 3) (mCons (mVar 9) mNil))) mNil))))) (tOf (mBin dNe (mB bRepr (mCons (mVar 9) mNil)) (mVar 10)))) (sRet (mC (.bool false))) sNext)))
    (sFor (iSeq (mBin dAdd (mBin dAdd (mLst (mCons (mVar 3) (mCons (mIf (tOf (mIsi "tuple" (mVar 3))) (mB bList (mCons (mVar 3) mNil)) (mVar 3)) (mCons (mCall (m_law_listed 150) (mCons (mVar 3) (mCons (mC (.int 1)) mNil))) (mCons (mCall (m_law_listed 150) (mCons (mVar 3) (mCons (mC (.int 2)) mNil))) (mCons (mCall (m_law_booled 150) (mCons (mVar 3) mNil)) mNil)))))) (mCall m_law_odd_values mNil)) (mLc (iRngM rng1 (mCons (mC (.int 12)) mNil)) (gSet 8) tYesM (mCall (m_law_bent 150) (mCons (mVar 1) (mCons (mVar 3) mNil))) [8]))) (gSet 9) (sIf (tNotM (tOf (mCall (m_law_same 150) (mCons (mCall mqu (mCons (mVar 9) mNil)) (mCons (mCall mlq (mCons (mVar 9) mNil)) mNil))))) (sRet (mC (.bool false))) sNext))))))))))))
    (sRet (mC (.bool true))))

/-- the same as a plain function -/
def lawP (no : Int) (pq : T DL.D) (pyes : DL.D → T Bool) (ppa : DL.D → T DL.D) (pf : DL.D → DL.D → T DL.D) (pho : DL.D → T Bool) (pfa : DL.D → DL.D → T DL.D) (pqu plq : DL.D → T Bool) (w1 w2 : Str) (px : DL.D → Bool → DL.D → DL.D → List DL.D → T (List DL.D)) : T Bool :=
(thenR (S := Unit) (T.bind (T.bind (con (T.ret ((.int no) : DL.D)) (T.ret [])) rng1) fun ds => forB (S := Unit) (S' := Unit) tgV (fun s2 turn_4 =>
      (T.bind (call (ap0 pq) (T.ret [])) fun q_5 =>
      (T.bind (call (ap1 pyes) (con (T.ret q_5) (T.ret []))) fun yes_6 =>
      (T.bind (call (ap1 ppa) (con (T.ret q_5) (T.ret []))) fun told_7 =>
      (iteP (orP (bin KB dIsNot (call (ap2 pf) (con (T.ret q_5) (con (T.ret told_7) (T.ret [])))) (T.ret (.none : DL.D))) (notP (call (ap2 h_same) (con (lvP (lst (con (bvP (call (ap1 pho) (con (T.ret q_5) (T.ret [])))) (con (bin KV dIx (T.ret told_7) (T.ret ((.int 0) : DL.D))) (T.ret []))))) (con (lvP (lst (con (T.ret (.bool yes_6 : DL.D)) (con (iteP (T.ret yes_6) (T.ret ((.str w1) : DL.D)) (T.ret ((.str w2) : DL.D))) (T.ret []))))) (T.ret []))))))
      (T.bind (T.ret false) fun x => T.ret (Ct.rt x : Ct Unit Unit Bool))
      (T.bind (call (ap1 ppa) (con (call (ap0 pq) (T.ret [])) (T.ret []))) fun other_8 =>
      (T.bind (lst (con (T.ret told_7) (con (T.ret other_8) (con (lvP (blt KL bList (con (T.ret told_7) (T.ret [])))) (con (call (ap2 h_listed) (con (T.ret told_7) (con (T.ret ((.int 1) : DL.D)) (T.ret [])))) (con (call (ap2 h_listed) (con (T.ret told_7) (con (T.ret ((.int 2) : DL.D)) (T.ret [])))) (con (call (ap1 h_booled) (con (T.ret told_7) (T.ret []))) (con (sl KV (T.ret told_7) (T.ret none) (T.bind (T.ret ((.int 1) : DL.D)) asI)) (con (bin KV dAdd (T.ret told_7) (tup (con (tup (T.ret [])) (T.ret [])))) (con (bin KV dAdd (tup (con (T.ret (.none : DL.D)) (T.ret []))) (sl KV (T.ret told_7) (T.bind (T.ret ((.int 1) : DL.D)) asI) (T.ret none))) (T.ret []))))))))))) fun tried_9 =>
      (T.bind (bin KL dAdd (T.ret (.list tried_9 : DL.D)) (lvP (lst (con (bin KV dAdd (tup (con (T.ret ((.str w1) : DL.D)) (T.ret []))) (sl KV (T.ret told_7) (T.bind (T.ret ((.int 1) : DL.D)) asI) (T.ret none))) (con (bin KV dAdd (tup (con (T.ret ((.str w2) : DL.D)) (T.ret []))) (sl KV (T.ret told_7) (T.bind (T.ret ((.int 1) : DL.D)) asI) (T.ret none))) (con (tup (con (T.ret ((.str w1) : DL.D)) (con (tup (T.ret [])) (T.ret [])))) (con (tup (con (T.ret ((.str w2) : DL.D)) (con (tup (T.ret [])) (T.ret [])))) (T.ret [])))))))) fun tried_10 =>
      (T.bind (px q_5 yes_6 told_7 other_8 tried_10) fun s11 =>
      (thenB (T.bind (items (lvP (bin KL dAdd (lvP (bin KL dAdd (T.ret (.list s11 : DL.D)) (lvP (call (ap0 h_odd) (T.ret []))))) (lvP (lcP tgV (fun k_19 => (T.ret true)) (fun k_19 => (call (ap1 h_bent) (con (T.ret told_7) (T.ret [])))) (T.bind (con (T.ret ((.int 10) : DL.D)) (T.ret [])) rng1)))))) fun ds => forB (S := Unit) (S' := Unit) tgV (fun s17 value_21 =>
      (T.bind (blt KV bRepr (con (T.ret value_21) (T.ret []))) fun shown_22 =>
      (iteP (orP (notP (call (ap2 h_same) (con (call (ap2 pfa) (con (T.ret q_5) (con (T.ret value_21) (T.ret [])))) (con (call (ap2 pf) (con (T.ret q_5) (con (T.ret value_21) (T.ret [])))) (T.ret []))))) (bin KB dNe (blt KV bRepr (con (T.ret value_21) (T.ret []))) (T.ret shown_22)))
      (T.bind (T.ret false) fun x => T.ret (Ct.rt x : Ct Unit Unit Bool))
      (T.ret (Ct.nx () : Ct Unit Unit Bool))))) () ds) fun s23 =>
      (thenB (T.bind (items (lvP (bin KL dAdd (lvP (bin KL dAdd (lvP (lst (con (T.ret q_5) (con (iteP (isi "tuple" (T.ret q_5)) (lvP (blt KL bList (con (T.ret q_5) (T.ret [])))) (T.ret q_5)) (con (call (ap2 h_listed) (con (T.ret q_5) (con (T.ret ((.int 1) : DL.D)) (T.ret [])))) (con (call (ap2 h_listed) (con (T.ret q_5) (con (T.ret ((.int 2) : DL.D)) (T.ret [])))) (con (call (ap1 h_booled) (con (T.ret q_5) (T.ret []))) (T.ret [])))))))) (lvP (call (ap0 h_odd) (T.ret []))))) (lvP (lcP tgV (fun k_27 => (T.ret true)) (fun k_27 => (call (ap1 h_bent) (con (T.ret q_5) (T.ret [])))) (T.bind (con (T.ret ((.int 12) : DL.D)) (T.ret [])) rng1)))))) fun ds => forB (S := Unit) (S' := Unit) tgV (fun s25 value_29 =>
      (iteP (notP (call (ap2 h_same) (con (bvP (call (ap1 pqu) (con (T.ret value_29) (T.ret [])))) (con (bvP (call (ap1 plq) (con (T.ret value_29) (T.ret [])))) (T.ret [])))))
      (T.bind (T.ret false) fun x => T.ret (Ct.rt x : Ct Unit Unit Bool))
      (T.ret (Ct.nx () : Ct Unit Unit Bool)))) () ds) fun s30 => T.ret (Ct.nx () : Ct Unit Unit Bool)))))))))))) () ds) fun s31 =>
    (T.ret true))
def exP (d q : DL.D) (w : Bool) (t o : DL.D) (l : List DL.D) : List Pt := [.any, .pool, .v d, .v q, .v (.bool w), .v t, .v o, .l l, .any, .any, .any]
theorem lawH_is {mq myes mpa mf mho mfa mqu mlq : List Sl → T R} {ex : MS} {no : Int} {pq : T DL.D} {pyes : DL.D → T Bool} {ppa : DL.D → T DL.D} {pf : DL.D → DL.D → T DL.D} {pho : DL.D → T Bool} {pfa : DL.D → DL.D → T DL.D} {pqu plq : DL.D → T Bool} {w1 w2 : Str} {px : DL.D → Bool → DL.D → DL.D → List DL.D → T (List DL.D)}
    (fq : Rl KV.rel pq (mq [.o .pool])) (fyes : ∀ a, Rl KB.rel (pyes a) (myes [.v a])) (fpa : ∀ a, Rl KV.rel (ppa a) (mpa [.v a])) (ff : ∀ a b, Rl KV.rel (pf a b) (mf [.v a, .v b])) (fho : ∀ a, Rl KB.rel (pho a) (mho [.v a])) (ffa : ∀ a b, Rl KV.rel (pfa a b) (mfa [.v a, .v b]))
    (fqu : ∀ a, Rl KB.rel (pqu a) (mqu [.v a])) (flq : ∀ a, Rl KB.rel (plq a) (mlq [.v a])) (hx : ∀ d q w t o l, PN (exP d q w t o l) ex (px q w t o l) (fun l' => exP d q w t o l')) :
    PR [.any, .pool, .any, .any, .any, .any, .any, .any, .any, .any, .any] (lawH no mq myes mpa mf mho mfa mqu mlq w1 w2 ex) KB (lawP no pq pyes ppa pf pho pfa pqu plq w1 w2 px) := (pr_seqB (po := fun (_ : Unit) => []) (pb_for (po := (fun (s2 : Unit) => [.any, .pool, .any, .any, .any, .any, .any, .any, .any, .any, .any])) () (pi_rng (pa_cons (po_s (ps_v pe_c)) pa_nil)) (by exact (.same (.same (.same (.same (.same (.same (.same (.same (.same (.same (.same .nil)))))))))))) (fun s2 => (pg_set rfl)) (fun s2 turn_4 => (pb_seq (pn_set (pe_callP rfl (rp0 fq) pas_nil) rfl) (fun q_5 => (pb_seq (pn_set (pe_call (rl1 fyes) (pas_cons (ps_v (pe_var rfl)) pas_nil)) rfl) (fun yes_6 => (pb_seq (pn_set (pe_call (rl1 fpa) (pas_cons (ps_v (pe_var rfl)) pas_nil)) rfl) (fun told_7 => (pb_ifL (pt_or (pt_of (pe_bin (po_s (ps_v (pe_call (rl2 ff) (pas_cons (ps_v (pe_var rfl)) (pas_cons (ps_v (pe_var rfl)) pas_nil))))) (po_s (ps_v pe_c)))) (pt_not (pt_of (pe_call (rl2 hf_same) (pas_cons (ps_of (pe_lst (pas_cons (ps_of (pe_call (rl1 fho) (pas_cons (ps_v (pe_var rfl)) pas_nil))) (pas_cons (ps_v (pe_bin (po_s (ps_v (pe_var rfl))) (po_s (ps_v pe_c)))) pas_nil)))) (pas_cons (ps_of (pe_lst (pas_cons (ps_v (pe_var rfl)) (pas_cons (ps_v (pe_if (pt_of (pe_varB rfl)) pe_c pe_c)) pas_nil)))) pas_nil)))))) (pb_rS (pr_ret pe_cb)) (pb_seq (pn_set (pe_call (rl1 fpa) (pas_cons (ps_v (pe_callP rfl (rp0 fq) pas_nil)) pas_nil)) rfl) (fun other_8 => (pb_seq (pn_set (pe_lst (pas_cons (ps_v (pe_var rfl)) (pas_cons (ps_v (pe_var rfl)) (pas_cons (ps_of (pe_b (pa_cons (po_s (ps_v (pe_var rfl))) pa_nil))) (pas_cons (ps_kf (pe_call (rl2 hf_listed) (pas_cons (ps_v (pe_var rfl)) (pas_cons (ps_v pe_c) pas_nil)))) (pas_cons (ps_kf (pe_call (rl2 hf_listed) (pas_cons (ps_v (pe_var rfl)) (pas_cons (ps_v pe_c) pas_nil)))) (pas_cons (ps_v (pe_call (rl1 hf_booled) (pas_cons (ps_v (pe_var rfl)) pas_nil))) (pas_cons (ps_v (pe_sl (po_s (ps_v (pe_var rfl))) pp_none (pp_some pe_c))) (pas_cons (ps_v (pe_bin (po_s (ps_v (pe_var rfl))) (po_s (ps_v (pe_tup (pas_cons (ps_v (pe_tup pas_nil)) pas_nil)))))) (pas_cons (ps_v (pe_bin (po_s (ps_v (pe_tup (pas_cons (ps_v pe_c) pas_nil)))) (po_s (ps_v (pe_sl (po_s (ps_v (pe_var rfl))) (pp_some pe_c) pp_none))))) pas_nil)))))))))) rfl) (fun tried_9 => (pb_seq (pn_set (pe_bin (po_l rfl) (po_s (ps_of (pe_lst (pas_cons (ps_v (pe_bin (po_s (ps_v (pe_tup (pas_cons (ps_v pe_c) pas_nil)))) (po_s (ps_v (pe_sl (po_s (ps_v (pe_var rfl))) (pp_some pe_c) pp_none))))) (pas_cons (ps_v (pe_bin (po_s (ps_v (pe_tup (pas_cons (ps_v pe_c) pas_nil)))) (po_s (ps_v (pe_sl (po_s (ps_v (pe_var rfl))) (pp_some pe_c) pp_none))))) (pas_cons (ps_v (pe_tup (pas_cons (ps_v pe_c) (pas_cons (ps_v (pe_tup pas_nil)) pas_nil)))) (pas_cons (ps_v (pe_tup (pas_cons (ps_v pe_c) (pas_cons (ps_v (pe_tup pas_nil)) pas_nil)))) pas_nil)))))))) rfl) (fun tried_10 => (pb_seq (hx turn_4 q_5 yes_6 told_7 other_8 tried_10) (fun s11 => (pb_seqB (po2 := (fun (s23 : Unit) => [.any, .pool, .v turn_4, .v q_5, .v (.bool yes_6), .v told_7, .v other_8, .l s11, .any, .any, .any])) (pb_for (po := (fun (s17 : Unit) => [.any, .pool, .v turn_4, .v q_5, .v (.bool yes_6), .v told_7, .v other_8, .l s11, .any, .any, .any])) () (pi_seq (ps_of (pe_bin (po_s (ps_of (pe_bin (po_l rfl) (po_s (ps_of (pe_call (rl0 hf_odd) pas_nil)))))) (po_s (ps_of (pe_lc (pi_rng (pa_cons (po_s (ps_v pe_c)) pa_nil)) (pg_set rfl) (fun k_19 => pt_yes) (fun k_19 => (ps_kf (pe_callP rfl (rp1 hf_bent) (pas_cons (ps_v (pe_var rfl)) pas_nil)))) (fun _ => rfl))))))) (by exact (.same (.same (.same (.same (.same (.same (.same (.same (.same (.same (.same .nil)))))))))))) (fun s17 => (pg_set rfl)) (fun s17 value_21 => (pb_seq (pn_set (pe_b (pa_cons (po_s (ps_v (pe_var rfl))) pa_nil)) rfl) (fun shown_22 => (pb_if (pt_or (pt_not (pt_of (pe_call (rl2 hf_same) (pas_cons (ps_v (pe_call (rl2 ffa) (pas_cons (ps_v (pe_var rfl)) (pas_cons (ps_v (pe_var rfl)) pas_nil)))) (pas_cons (ps_v (pe_call (rl2 ff) (pas_cons (ps_v (pe_var rfl)) (pas_cons (ps_v (pe_var rfl)) pas_nil)))) pas_nil))))) (pt_of (pe_bin (po_s (ps_v (pe_b (pa_cons (po_s (ps_v (pe_var rfl))) pa_nil)))) (po_s (ps_v (pe_var rfl)))))) (pb_r (pr_ret pe_cb)) (pb_nextE (s := ()) (by exact (.same (.same (.same (.same (.same (.same (.same (.same (.same (.any rfl (.any rfl .nil)))))))))))))))))) (fun s23 => (pb_thenE (fun s30 => ()) (pb_for (po := (fun (s25 : Unit) => [.any, .pool, .v turn_4, .v q_5, .v (.bool yes_6), .v told_7, .v other_8, .l s11, .any, .any, .any])) () (pi_seq (ps_of (pe_bin (po_s (ps_of (pe_bin (po_s (ps_of (pe_lst (pas_cons (ps_v (pe_var rfl)) (pas_cons (ps_kf (pe_if (pt_of (pe_isi (po_s (ps_v (pe_var rfl))))) (pe_lf (pe_b (pa_cons (po_s (ps_v (pe_var rfl))) pa_nil))) (pe_vf (pe_var rfl)))) (pas_cons (ps_kf (pe_call (rl2 hf_listed) (pas_cons (ps_v (pe_var rfl)) (pas_cons (ps_v pe_c) pas_nil)))) (pas_cons (ps_kf (pe_call (rl2 hf_listed) (pas_cons (ps_v (pe_var rfl)) (pas_cons (ps_v pe_c) pas_nil)))) (pas_cons (ps_v (pe_call (rl1 hf_booled) (pas_cons (ps_v (pe_var rfl)) pas_nil))) pas_nil)))))))) (po_s (ps_of (pe_call (rl0 hf_odd) pas_nil)))))) (po_s (ps_of (pe_lc (pi_rng (pa_cons (po_s (ps_v pe_c)) pa_nil)) (pg_set rfl) (fun k_27 => pt_yes) (fun k_27 => (ps_kf (pe_callP rfl (rp1 hf_bent) (pas_cons (ps_v (pe_var rfl)) pas_nil)))) (fun _ => rfl))))))) (by exact (.same (.same (.same (.same (.same (.same (.same (.same (.same (.same (.same .nil)))))))))))) (fun s25 => (pg_set rfl)) (fun s25 value_29 => (pb_if (pt_not (pt_of (pe_call (rl2 hf_same) (pas_cons (ps_of (pe_call (rl1 fqu) (pas_cons (ps_v (pe_var rfl)) pas_nil))) (pas_cons (ps_of (pe_call (rl1 flq) (pas_cons (ps_v (pe_var rfl)) pas_nil))) pas_nil))))) (pb_r (pr_ret pe_cb)) (pb_nextE (s := ()) (by exact (.same (.same (.same (.same (.same (.same (.same (.same (.same (.any rfl (.same .nil)))))))))))))))) (fun s30 => (by exact (.same (.same (.any rfl (.any rfl (.any rfl (.any rfl (.any rfl (.any rfl (.same (.same (.same .nil))))))))))))))))))))))))))))))))) (fun s31 => (pr_ret pe_cb)))
structure LawOk (no : Int) (pq : T DL.D) (pyes : DL.D → T Bool) (ppa : DL.D → T DL.D) (pf : DL.D → DL.D → T DL.D) (pho : DL.D → T Bool) (pfa : DL.D → DL.D → T DL.D) (pqu plq : DL.D → T Bool) (w1 w2 : Str) (px : DL.D → Bool → DL.D → DL.D → List DL.D → T (List DL.D)) (B h W : Nat) (Qs : DL.D → Bool → List DL.D → Prop) : Prop where
  hno : -1000 ≤ no ∧ no ≤ 1000
  hB : B + 2 < 2 ^ 64
  hh : h ≤ 100
  hW : W ≤ 5000
  s1 : strOk w1 ∧ w1.length ≤ 20
  s2 : strOk w2 ∧ w2.length ≤ 20
  draw : pq.wp fun q => ∃ w ts, Qs q w ts
  q_bd : ∀ {q w ts}, Qs q w ts → Bd B h q ∧ wt q ≤ W ∧ ∃ qz, q = .tuple qz
  yes : ∀ {q w ts}, Qs q w ts → pyes q = .ret w
  paper : ∀ {q w ts}, Qs q w ts → ppa q = .ret (.tuple ts)
  t_bd : ∀ {q w ts}, Qs q w ts → Bd B h (.tuple ts) ∧ wt (.tuple ts) ≤ W
  t_f : ∀ {q w ts}, Qs q w ts → pf q (.tuple ts) = .ret .none
  t_0 : ∀ {q w ts}, Qs q w ts → ts[0]? = some (.str (if w = true then w1 else w2))
  holds : ∀ {q w ts}, Qs q w ts → pho q = .ret w
  fault : ∀ {q w ts}, Qs q w ts → ∀ v, Fine v → ∃ d B', pfa q v = .ret d ∧ pf q v = .ret d ∧ Bd B' h d ∧ wt d ≤ 50000
  quest : ∀ v, Fine v → ∃ b, pqu v = .ret b ∧ plq v = .ret b
  extra : ∀ {q w ts q2 w2 ts2}, Qs q w ts → Qs q2 w2 ts2 → ∀ (l : List DL.D), l.length = 13 → (∀ v ∈ l, Fine v) → (px q w (.tuple ts) (.tuple ts2) l).wp fun l' => l'.length ≤ 50000 ∧ ∀ v ∈ l', Fine v
theorem lawP_holds {no : Int} {pq : T DL.D} {pyes : DL.D → T Bool} {ppa : DL.D → T DL.D} {pf : DL.D → DL.D → T DL.D} {pho : DL.D → T Bool} {pfa : DL.D → DL.D → T DL.D} {pqu plq : DL.D → T Bool} {w1 w2 : Str} {px : DL.D → Bool → DL.D → DL.D → List DL.D → T (List DL.D)} {B h W : Nat} {Qs : DL.D → Bool → List DL.D → Prop}
    (L : LawOk no pq pyes ppa pf pho pfa pqu plq w1 w2 px B h W Qs) : (lawP no pq pyes ppa pf pho pfa pqu plq w1 w2 px).wp fun b => b = true := by
  have hn := L.hno
  have hrn : rng1 [.int no] = .ret (rngD 0 no.toNat) := by
    show (if big no = true then T.ret (rngD 0 no.toNat) else .stop) = _
    rw [if_pos (by unfold big; exact decide_eq_true (by omega))]
  have hr10 : rng1 [.int 10] = .ret (rngD 0 10) := rng1_nat (n := 10) (by decide)
  have hr12 : rng1 [.int 12] = .ret (rngD 0 12) := rng1_nat (n := 12) (by decide)
  simp -implicitDefEqProofs only [lawP, con, bind_r, hrn, thenR]
  repeat rw [T.wp_bind]
  refine T.wp_mono (forB_wp (S' := Unit) (fun _ => True) _ _ trivial fun d _ s _ => ?_) fun c hc => ?_
  rotate_left
  · obtain ⟨s', rfl, _⟩ := hc
    rfl
  simp -implicitDefEqProofs only [tgV, wp_ret, call, ap0, ap1, ap2, bind_r]
  repeat rw [T.wp_bind]
  refine T.wp_mono L.draw fun q ⟨w, ts, hq⟩ => ?_
  obtain ⟨qz, eqz⟩ := (L.q_bd hq).2.2
  subst eqz
  have hf := L.t_f hq
  have h0 := L.t_0 hq
  have ht := L.paper hq
  have hy := L.yes hq
  have hho := L.holds hq
  obtain ⟨hbd, hwt⟩ := L.t_bd hq
  obtain ⟨qbd, qwt, qt⟩ := L.q_bd hq
  have hhh := L.hh
  have hWW := L.hW
  have bg := L.hB
  have big : B < 2 ^ 64 := by omega
  have same_ok : h_same (.list [.bool w, .str (if w = true then w1 else w2)]) (.list [.bool w, .str (if w = true then w1 else w2)]) = .ret true := by
    refine h_same_eq (B := B) (h := 1) ?_ (by decide) ?_
    · refine List.forall_mem_cons.mpr ⟨.bool, List.forall_mem_cons.mpr ⟨?_, fun _ z => nomatch z⟩⟩
      split
      · exact .str L.s1.1
      · exact .str L.s2.1
    · have l1 := L.s1.2
      have l2 := L.s2.2
      simp -implicitDefEqProofs only [wt, wtA]
      split <;> omega
  have hite : iteP (T.ret w) (T.ret (.str w1 : DL.D)) (T.ret (.str w2)) = T.ret (.str (if w = true then w1 else w2)) := by cases w <;> rfl
  have e0 : dIx (.tuple ts) (.int 0) = .ret (.v (.str (if w = true then w1 else w2))) := dIx_tup (i := 0) h0
  simp -implicitDefEqProofs only [hy, ht, bind_r]
  simp -implicitDefEqProofs only [hite]
  simp -implicitDefEqProofs only [PL.bin, PL.un, PL.call, PL.ap0, PL.ap1, PL.ap2, PL.ap3, PL.ap4, PL.ap5, PL.ap6, PL.con, PL.blt, PL.tup, PL.lst, PL.lcP, PL.items, itemsOf, PL.sl, PL.bvP, PL.lvP, PL.kvP, p_vb, asI_i, PL.tgV, PL.tgO, PL.tgC, PL.tgT, PL.andP, PL.orP, PL.notP, PL.iteP, PL.isi, PL.cmp2, PL.appP, PL.thenR, PL.thenB, bind_r, bind_s, wp_ret, bind_ite, kv_of, kb_of, kl_of, kk_of, kf_v, kf_l, kk_val, e_chk, each_nil, each_cons, forN_nil, forN_cons, forB_nil, forB_cons, List.append_nil, List.nil_append, List.cons_append, List.length_cons, List.length_nil, Bool.false_eq_true, if_true, if_false, Bool.not_true, Bool.not_false, Nat.zero_add, Nat.le_refl, Nat.zero_le, isi_none, isi_bool, isi_int, isi_str, isi_list, isi_tuple, isi_dict, dIs, dIsNot, isn_none, isn_int, isn_bool, isn_str, isn_tup, isn_lst, isn_dict, decide_eq_true_eq, Bool.not_eq_true, Nat.reduceLeDiff, Nat.reduceAdd, Nat.reduceSub, reduceIte, ite_self, hho, hf, e0, same_ok]
  repeat rw [T.wp_bind]
  refine T.wp_mono L.draw fun q2 ⟨u2, ts2, hq2⟩ => ?_
  obtain ⟨obd, owt⟩ := L.t_bd hq2
  have ho := L.paper hq2
  have wts : wtA ts + 8 ≤ W := by simpa only [wt] using hwt
  have tsl : ts.length ≤ 5000 := by have := wtA_len ts; omega
  obtain ⟨h', hk1, tsx⟩ := hbd.tup_inv
  have k1 : dSl (.tuple ts) none (some 1) = .ret (.v (.tuple (ts.take 1))) := by rw [dSl_tup, cut_lo (i := 1) (by decide)]; rfl
  have k2 : dSl (.tuple ts) (some 1) none = .ret (.v (.tuple (ts.drop 1))) := by rw [dSl_tup, cut_hi (i := 1) (by decide)]; rfl
  have tl : (ts.take 1).length ≤ 5000 := by rw [List.length_take]; omega
  have dl : (ts.drop 1).length ≤ 5000 := by rw [List.length_drop]; omega
  have a1 : dAdd (.tuple ts) (.tuple [.tuple []]) = .ret (.v (.tuple (ts ++ [.tuple []]))) := dAdd_tup (by simp -implicitDefEqProofs only [List.length_cons, List.length_nil]; omega)
  have a2 : ∀ x : DL.D, dAdd (.tuple [x]) (.tuple (ts.drop 1)) = .ret (.v (.tuple ([x] ++ ts.drop 1))) := fun x => dAdd_tup (by simp -implicitDefEqProofs only [List.length_cons, List.length_nil]; omega)
  have g1 : Fine (.tuple ts) := hbd.fine big (by omega) (by omega)
  have g2 : Fine (.tuple ts2) := obd.fine big (by omega) (by omega)
  have g3 : Fine (.list ts) := Bd.fine (h := h' + 1) big (show Bd B (h' + 1) (.list ts) from tsx) (by omega) (by simp -implicitDefEqProofs only [wt]; omega)
  have g4 : Fine (.tuple (ts.take 1)) := Bd.fine (h := h' + 1) big (show Bd B (h' + 1) (.tuple (ts.take 1)) from fun x hx => tsx x (List.mem_of_mem_take hx)) (by omega) (by simp -implicitDefEqProofs only [wt]; have := wtA_take 1 ts; omega)
  have g5 : Fine (.tuple (ts ++ [.tuple []])) := Bd.fine (h := h' + 2) big (show Bd B (h' + 2) (.tuple (ts ++ [.tuple []])) from fun x hx => (List.mem_append.mp hx).elim (fun h => (tsx x h).mono (Nat.le_refl _) (by omega)) fun h => by rw [List.mem_singleton.mp h]; exact fun _ z => nomatch z) (by omega) (by simp -implicitDefEqProofs only [wt, wtA_append, wtA]; omega)
  have g6 : ∀ x, Bd B 1 x → wt x ≤ 300 → Fine (.tuple ([x] ++ ts.drop 1)) := fun x bx wx => Bd.fine (h := h' + 2) big (show Bd B (h' + 2) (.tuple ([x] ++ ts.drop 1)) from fun y hy => (List.mem_append.mp hy).elim (fun h => by rw [List.mem_singleton.mp h]; exact bx.mono (Nat.le_refl _) (by omega)) fun h => (tsx y (List.mem_of_mem_drop h)).mono (Nat.le_refl _) (by omega)) (by omega) (by simp -implicitDefEqProofs only [wt, wtA_append, wtA]; have := wtA_drop 1 ts; omega)
  have gw : ∀ x : Str, strOk x → x.length ≤ 20 → Fine (.tuple [.str x, .tuple []]) ∧ wt (.str x) ≤ 300 := fun x hx hl => ⟨Bd.fine (B := B) (h := 2) big (List.forall_mem_cons.mpr ⟨.str hx, List.forall_mem_cons.mpr ⟨fun _ z => (nomatch z), fun _ z => nomatch z⟩⟩) (by decide) (by simp -implicitDefEqProofs only [wt, wtA]; omega), by simp -implicitDefEqProofs only [wt]; omega⟩
  have g7 := gw w1 L.s1.1 L.s1.2
  have g8 := gw w2 L.s2.1 L.s2.2
  simp -implicitDefEqProofs only [ho, bList_tup, k1, k2, a1, a2, PL.bin, PL.un, PL.call, PL.ap0, PL.ap1, PL.ap2, PL.ap3, PL.ap4, PL.ap5, PL.ap6, PL.con, PL.blt, PL.tup, PL.lst, PL.lcP, PL.items, itemsOf, PL.sl, PL.bvP, PL.lvP, PL.kvP, p_vb, asI_i, PL.tgV, PL.tgO, PL.tgC, PL.tgT, PL.andP, PL.orP, PL.notP, PL.iteP, PL.isi, PL.cmp2, PL.appP, PL.thenR, PL.thenB, bind_r, bind_s, wp_ret, bind_ite, kv_of, kb_of, kl_of, kk_of, kf_v, kf_l, kk_val, e_chk, each_nil, each_cons, forN_nil, forN_cons, forB_nil, forB_cons, List.append_nil, List.nil_append, List.cons_append, List.length_cons, List.length_nil, Bool.false_eq_true, if_true, if_false, Bool.not_true, Bool.not_false, Nat.zero_add, Nat.le_refl, Nat.zero_le, isi_none, isi_bool, isi_int, isi_str, isi_list, isi_tuple, isi_dict, dIs, dIsNot, isn_none, isn_int, isn_bool, isn_str, isn_tup, isn_lst, isn_dict, decide_eq_true_eq, Bool.not_eq_true, Nat.reduceLeDiff, Nat.reduceAdd, Nat.reduceSub, reduceIte, ite_self]
  repeat rw [T.wp_bind]
  refine T.wp_mono (h_listed_wp big hbd hhh (by omega)) fun y1 f1 => ?_
  simp -implicitDefEqProofs only [PL.bin, PL.un, PL.call, PL.ap0, PL.ap1, PL.ap2, PL.ap3, PL.ap4, PL.ap5, PL.ap6, PL.con, PL.blt, PL.tup, PL.lst, PL.lcP, PL.items, itemsOf, PL.sl, PL.bvP, PL.lvP, PL.kvP, p_vb, asI_i, PL.tgV, PL.tgO, PL.tgC, PL.tgT, PL.andP, PL.orP, PL.notP, PL.iteP, PL.isi, PL.cmp2, PL.appP, PL.thenR, PL.thenB, bind_r, bind_s, wp_ret, bind_ite, kv_of, kb_of, kl_of, kk_of, kf_v, kf_l, kk_val, e_chk, each_nil, each_cons, forN_nil, forN_cons, forB_nil, forB_cons, List.append_nil, List.nil_append, List.cons_append, List.length_cons, List.length_nil, Bool.false_eq_true, if_true, if_false, Bool.not_true, Bool.not_false, Nat.zero_add, Nat.le_refl, Nat.zero_le, isi_none, isi_bool, isi_int, isi_str, isi_list, isi_tuple, isi_dict, dIs, dIsNot, isn_none, isn_int, isn_bool, isn_str, isn_tup, isn_lst, isn_dict, decide_eq_true_eq, Bool.not_eq_true, Nat.reduceLeDiff, Nat.reduceAdd, Nat.reduceSub, reduceIte, ite_self]
  repeat rw [T.wp_bind]
  refine T.wp_mono (h_listed_wp big hbd hhh (by omega)) fun y2 f2 => ?_
  simp -implicitDefEqProofs only [PL.bin, PL.un, PL.call, PL.ap0, PL.ap1, PL.ap2, PL.ap3, PL.ap4, PL.ap5, PL.ap6, PL.con, PL.blt, PL.tup, PL.lst, PL.lcP, PL.items, itemsOf, PL.sl, PL.bvP, PL.lvP, PL.kvP, p_vb, asI_i, PL.tgV, PL.tgO, PL.tgC, PL.tgT, PL.andP, PL.orP, PL.notP, PL.iteP, PL.isi, PL.cmp2, PL.appP, PL.thenR, PL.thenB, bind_r, bind_s, wp_ret, bind_ite, kv_of, kb_of, kl_of, kk_of, kf_v, kf_l, kk_val, e_chk, each_nil, each_cons, forN_nil, forN_cons, forB_nil, forB_cons, List.append_nil, List.nil_append, List.cons_append, List.length_cons, List.length_nil, Bool.false_eq_true, if_true, if_false, Bool.not_true, Bool.not_false, Nat.zero_add, Nat.le_refl, Nat.zero_le, isi_none, isi_bool, isi_int, isi_str, isi_list, isi_tuple, isi_dict, dIs, dIsNot, isn_none, isn_int, isn_bool, isn_str, isn_tup, isn_lst, isn_dict, decide_eq_true_eq, Bool.not_eq_true, Nat.reduceLeDiff, Nat.reduceAdd, Nat.reduceSub, reduceIte, ite_self]
  repeat rw [T.wp_bind]
  refine T.wp_mono (h_booled_wp big hbd hhh (by omega)) fun y3 f3 => ?_
  simp -implicitDefEqProofs only [PL.bin, PL.un, PL.call, PL.ap0, PL.ap1, PL.ap2, PL.ap3, PL.ap4, PL.ap5, PL.ap6, PL.con, PL.blt, PL.tup, PL.lst, PL.lcP, PL.items, itemsOf, PL.sl, PL.bvP, PL.lvP, PL.kvP, p_vb, asI_i, PL.tgV, PL.tgO, PL.tgC, PL.tgT, PL.andP, PL.orP, PL.notP, PL.iteP, PL.isi, PL.cmp2, PL.appP, PL.thenR, PL.thenB, bind_r, bind_s, wp_ret, bind_ite, kv_of, kb_of, kl_of, kk_of, kf_v, kf_l, kk_val, e_chk, each_nil, each_cons, forN_nil, forN_cons, forB_nil, forB_cons, List.append_nil, List.nil_append, List.cons_append, List.length_cons, List.length_nil, Bool.false_eq_true, if_true, if_false, Bool.not_true, Bool.not_false, Nat.zero_add, Nat.le_refl, Nat.zero_le, isi_none, isi_bool, isi_int, isi_str, isi_list, isi_tuple, isi_dict, dIs, dIsNot, isn_none, isn_int, isn_bool, isn_str, isn_tup, isn_lst, isn_dict, decide_eq_true_eq, Bool.not_eq_true, Nat.reduceLeDiff, Nat.reduceAdd, Nat.reduceSub, reduceIte, ite_self, dAdd_listE]
  repeat rw [T.wp_bind]
  refine T.wp_mono (L.extra hq hq2 _ rfl ?_) ?_
  · refine List.forall_mem_cons.mpr ⟨g1, List.forall_mem_cons.mpr ⟨g2, List.forall_mem_cons.mpr ⟨g3, List.forall_mem_cons.mpr ⟨f1, List.forall_mem_cons.mpr ⟨f2, List.forall_mem_cons.mpr ⟨f3, List.forall_mem_cons.mpr ⟨g4, List.forall_mem_cons.mpr ⟨g5, ?_⟩⟩⟩⟩⟩⟩⟩⟩
    refine List.forall_mem_cons.mpr ⟨g6 .none .none (by decide), List.forall_mem_cons.mpr ⟨g6 (.str w1) (.str L.s1.1) g7.2, List.forall_mem_cons.mpr ⟨g6 (.str w2) (.str L.s2.1) g8.2, List.forall_mem_cons.mpr ⟨g7.1, List.forall_mem_cons.mpr ⟨g8.1, fun _ z => nomatch z⟩⟩⟩⟩⟩
  intro l ⟨hl, hF⟩
  have hl1 : l.length + oddL.length ≤ 100000 := by rw [odd_len]; omega
  have o1 : dAdd (.list l) (.list oddL) = .ret (.o (.lst (l ++ oddL))) := dAdd_list hl1
  have hrl : (rngD 0 10).length ≤ 100000 := by rw [rng_len]; decide
  have hrl2 : (rngD 0 12).length ≤ 100000 := by rw [rng_len]; decide
  simp -implicitDefEqProofs only [PL.bin, PL.un, PL.call, PL.ap0, PL.ap1, PL.ap2, PL.ap3, PL.ap4, PL.ap5, PL.ap6, PL.con, PL.blt, PL.tup, PL.lst, PL.lcP, PL.items, itemsOf, PL.sl, PL.bvP, PL.lvP, PL.kvP, p_vb, asI_i, PL.tgV, PL.tgO, PL.tgC, PL.tgT, PL.andP, PL.orP, PL.notP, PL.iteP, PL.isi, PL.cmp2, PL.appP, PL.thenR, PL.thenB, bind_r, bind_s, wp_ret, bind_ite, kv_of, kb_of, kl_of, kk_of, kf_v, kf_l, kk_val, e_chk, each_nil, each_cons, forN_nil, forN_cons, forB_nil, forB_cons, List.append_nil, List.nil_append, List.cons_append, List.length_cons, List.length_nil, Bool.false_eq_true, if_true, if_false, Bool.not_true, Bool.not_false, Nat.zero_add, Nat.le_refl, Nat.zero_le, isi_none, isi_bool, isi_int, isi_str, isi_list, isi_tuple, isi_dict, dIs, dIsNot, isn_none, isn_int, isn_bool, isn_str, isn_tup, isn_lst, isn_dict, decide_eq_true_eq, Bool.not_eq_true, Nat.reduceLeDiff, Nat.reduceAdd, Nat.reduceSub, reduceIte, ite_self, h_odd_eq, o1, hr10, hrl]
  repeat rw [T.wp_bind]
  refine T.wp_mono (each_wp (P := Fine) (rngD 0 10) fun a _ => h_bent_wp bg hbd hhh (by omega)) fun z hz => ?_
  have zl : z.length = 10 := by have := hz.1; rw [rng_len] at this; exact this
  have hl2 : (l ++ oddL).length + z.length ≤ 100000 := by rw [List.length_append, odd_len, zl]; omega
  have all1 : ∀ v ∈ l ++ oddL ++ z, Fine v := fun v hv => by
    rcases List.mem_append.mp hv with hv | hv
    · exact (List.mem_append.mp hv).elim (hF v) (odd_fine v)
    · exact hz.2 v hv
  simp -implicitDefEqProofs only [PL.bin, PL.un, PL.call, PL.ap0, PL.ap1, PL.ap2, PL.ap3, PL.ap4, PL.ap5, PL.ap6, PL.con, PL.blt, PL.tup, PL.lst, PL.lcP, PL.items, itemsOf, PL.sl, PL.bvP, PL.lvP, PL.kvP, p_vb, asI_i, PL.tgV, PL.tgO, PL.tgC, PL.tgT, PL.andP, PL.orP, PL.notP, PL.iteP, PL.isi, PL.cmp2, PL.appP, PL.thenR, PL.thenB, bind_r, bind_s, wp_ret, bind_ite, kv_of, kb_of, kl_of, kk_of, kf_v, kf_l, kk_val, e_chk, each_nil, each_cons, forN_nil, forN_cons, forB_nil, forB_cons, List.append_nil, List.nil_append, List.cons_append, List.length_cons, List.length_nil, Bool.false_eq_true, if_true, if_false, Bool.not_true, Bool.not_false, Nat.zero_add, Nat.le_refl, Nat.zero_le, isi_none, isi_bool, isi_int, isi_str, isi_list, isi_tuple, isi_dict, dIs, dIsNot, isn_none, isn_int, isn_bool, isn_str, isn_tup, isn_lst, isn_dict, decide_eq_true_eq, Bool.not_eq_true, Nat.reduceLeDiff, Nat.reduceAdd, Nat.reduceSub, reduceIte, ite_self, dAdd_list hl2]
  refine T.wp_mono (forB_wp (S' := Unit) (fun _ => True) _ _ trivial fun v hv s _ => ?_) ?_
  · have fv := all1 v hv
    obtain ⟨e, B', e1, e2, b1, b2⟩ := L.fault hq v fv
    have sm := h_same_eq b1 (by omega) (by omega)
    simp -implicitDefEqProofs only [tgV, wp_ret, bRepr_fine fv, bind_r, kv_of, e1, e2, ap2, sm, Bool.not_true, Bool.false_eq_true, if_false]
    have ns : dNe (.str v.shown) (.str v.shown) = .ret (.v (.bool false)) := by rw [dNe_str, decide_eq_true rfl]; rfl
    rw [ns, bind_r, kb_of, bind_r]
    exact ⟨(), rfl, trivial⟩
  intro c hc
  cases hc with | intro s' hc =>
  have ec := hc.1
  clear hc
  cases c with
  | bk s2 => cases ec
  | ct s2 => cases ec
  | rt s2 => cases ec
  | nx s2 =>
    clear ec
    have hl3 : 5 + oddL.length ≤ 100000 := by rw [odd_len]; decide
    have wq : wtA qz + 8 ≤ W := by simpa only [wt] using qwt
    obtain ⟨hz', hz1, qx⟩ := qbd.tup_inv
    have q1 : Fine (.tuple qz) := qbd.fine big (by omega) (by omega)
    have q2' : Fine (.list qz) := Bd.fine (h := hz' + 1) big (show Bd B (hz' + 1) (.list qz) from qx) (by omega) (by simp -implicitDefEqProofs only [wt]; omega)
    simp -implicitDefEqProofs only [PL.bin, PL.un, PL.call, PL.ap0, PL.ap1, PL.ap2, PL.ap3, PL.ap4, PL.ap5, PL.ap6, PL.con, PL.blt, PL.tup, PL.lst, PL.lcP, PL.items, itemsOf, PL.sl, PL.bvP, PL.lvP, PL.kvP, p_vb, asI_i, PL.tgV, PL.tgO, PL.tgC, PL.tgT, PL.andP, PL.orP, PL.notP, PL.iteP, PL.isi, PL.cmp2, PL.appP, PL.thenR, PL.thenB, bind_r, bind_s, wp_ret, bind_ite, kv_of, kb_of, kl_of, kk_of, kf_v, kf_l, kk_val, e_chk, each_nil, each_cons, forN_nil, forN_cons, forB_nil, forB_cons, List.append_nil, List.nil_append, List.cons_append, List.length_cons, List.length_nil, Bool.false_eq_true, if_true, if_false, Bool.not_true, Bool.not_false, Nat.zero_add, Nat.le_refl, Nat.zero_le, isi_none, isi_bool, isi_int, isi_str, isi_list, isi_tuple, isi_dict, dIs, dIsNot, isn_none, isn_int, isn_bool, isn_str, isn_tup, isn_lst, isn_dict, decide_eq_true_eq, Bool.not_eq_true, Nat.reduceLeDiff, Nat.reduceAdd, Nat.reduceSub, reduceIte, ite_self, bList_tup]
    repeat rw [T.wp_bind]
    refine T.wp_mono (h_listed_wp big qbd hhh (by omega)) fun y4 f4 => ?_
    simp -implicitDefEqProofs only [PL.bin, PL.un, PL.call, PL.ap0, PL.ap1, PL.ap2, PL.ap3, PL.ap4, PL.ap5, PL.ap6, PL.con, PL.blt, PL.tup, PL.lst, PL.lcP, PL.items, itemsOf, PL.sl, PL.bvP, PL.lvP, PL.kvP, p_vb, asI_i, PL.tgV, PL.tgO, PL.tgC, PL.tgT, PL.andP, PL.orP, PL.notP, PL.iteP, PL.isi, PL.cmp2, PL.appP, PL.thenR, PL.thenB, bind_r, bind_s, wp_ret, bind_ite, kv_of, kb_of, kl_of, kk_of, kf_v, kf_l, kk_val, e_chk, each_nil, each_cons, forN_nil, forN_cons, forB_nil, forB_cons, List.append_nil, List.nil_append, List.cons_append, List.length_cons, List.length_nil, Bool.false_eq_true, if_true, if_false, Bool.not_true, Bool.not_false, Nat.zero_add, Nat.le_refl, Nat.zero_le, isi_none, isi_bool, isi_int, isi_str, isi_list, isi_tuple, isi_dict, dIs, dIsNot, isn_none, isn_int, isn_bool, isn_str, isn_tup, isn_lst, isn_dict, decide_eq_true_eq, Bool.not_eq_true, Nat.reduceLeDiff, Nat.reduceAdd, Nat.reduceSub, reduceIte, ite_self]
    repeat rw [T.wp_bind]
    refine T.wp_mono (h_listed_wp big qbd hhh (by omega)) fun y5 f5 => ?_
    simp -implicitDefEqProofs only [PL.bin, PL.un, PL.call, PL.ap0, PL.ap1, PL.ap2, PL.ap3, PL.ap4, PL.ap5, PL.ap6, PL.con, PL.blt, PL.tup, PL.lst, PL.lcP, PL.items, itemsOf, PL.sl, PL.bvP, PL.lvP, PL.kvP, p_vb, asI_i, PL.tgV, PL.tgO, PL.tgC, PL.tgT, PL.andP, PL.orP, PL.notP, PL.iteP, PL.isi, PL.cmp2, PL.appP, PL.thenR, PL.thenB, bind_r, bind_s, wp_ret, bind_ite, kv_of, kb_of, kl_of, kk_of, kf_v, kf_l, kk_val, e_chk, each_nil, each_cons, forN_nil, forN_cons, forB_nil, forB_cons, List.append_nil, List.nil_append, List.cons_append, List.length_cons, List.length_nil, Bool.false_eq_true, if_true, if_false, Bool.not_true, Bool.not_false, Nat.zero_add, Nat.le_refl, Nat.zero_le, isi_none, isi_bool, isi_int, isi_str, isi_list, isi_tuple, isi_dict, dIs, dIsNot, isn_none, isn_int, isn_bool, isn_str, isn_tup, isn_lst, isn_dict, decide_eq_true_eq, Bool.not_eq_true, Nat.reduceLeDiff, Nat.reduceAdd, Nat.reduceSub, reduceIte, ite_self]
    repeat rw [T.wp_bind]
    refine T.wp_mono (h_booled_wp big qbd hhh (by omega)) fun y6 f6 => ?_
    have q3 : ∀ v ∈ (PyData.tuple qz :: PyData.list qz :: y4 :: y5 :: y6 :: oddL), Fine v := List.forall_mem_cons.mpr ⟨q1, List.forall_mem_cons.mpr ⟨q2', List.forall_mem_cons.mpr ⟨f4, List.forall_mem_cons.mpr ⟨f5, List.forall_mem_cons.mpr ⟨f6, odd_fine⟩⟩⟩⟩⟩
    have o2 : dAdd (.list [.tuple qz, .list qz, y4, y5, y6]) (.list oddL) = .ret (.o (.lst (.tuple qz :: .list qz :: y4 :: y5 :: y6 :: oddL))) := dAdd_list hl3
    simp -implicitDefEqProofs only [PL.bin, PL.un, PL.call, PL.ap0, PL.ap1, PL.ap2, PL.ap3, PL.ap4, PL.ap5, PL.ap6, PL.con, PL.blt, PL.tup, PL.lst, PL.lcP, PL.items, itemsOf, PL.sl, PL.bvP, PL.lvP, PL.kvP, p_vb, asI_i, PL.tgV, PL.tgO, PL.tgC, PL.tgT, PL.andP, PL.orP, PL.notP, PL.iteP, PL.isi, PL.cmp2, PL.appP, PL.thenR, PL.thenB, bind_r, bind_s, wp_ret, bind_ite, kv_of, kb_of, kl_of, kk_of, kf_v, kf_l, kk_val, e_chk, each_nil, each_cons, forN_nil, forN_cons, forB_nil, forB_cons, List.append_nil, List.nil_append, List.cons_append, List.length_cons, List.length_nil, Bool.false_eq_true, if_true, if_false, Bool.not_true, Bool.not_false, Nat.zero_add, Nat.le_refl, Nat.zero_le, isi_none, isi_bool, isi_int, isi_str, isi_list, isi_tuple, isi_dict, dIs, dIsNot, isn_none, isn_int, isn_bool, isn_str, isn_tup, isn_lst, isn_dict, decide_eq_true_eq, Bool.not_eq_true, Nat.reduceLeDiff, Nat.reduceAdd, Nat.reduceSub, reduceIte, ite_self, h_odd_eq, o2, hr12, hrl2]
    repeat rw [T.wp_bind]
    refine T.wp_mono (each_wp (P := Fine) (rngD 0 12) fun a _ => h_bent_wp bg qbd hhh (by omega)) fun z hz => ?_
    have zl2 : z.length = 12 := by have := hz.1; rw [rng_len] at this; exact this
    have q4 : (PyData.tuple qz :: PyData.list qz :: y4 :: y5 :: y6 :: oddL).length = 27 := rfl
    generalize (PyData.tuple qz :: PyData.list qz :: y4 :: y5 :: y6 :: oddL) = L2 at q3 q4 ⊢
    have hl5 : L2.length + z.length ≤ 100000 := by rw [q4, zl2]; decide
    have all2 : ∀ v ∈ L2 ++ z, Fine v := fun v hv => by
      rcases List.mem_append.mp hv with hv | hv
      · exact q3 v hv
      · exact hz.2 v hv
    simp -implicitDefEqProofs only [PL.bin, PL.un, PL.call, PL.ap0, PL.ap1, PL.ap2, PL.ap3, PL.ap4, PL.ap5, PL.ap6, PL.con, PL.blt, PL.tup, PL.lst, PL.lcP, PL.items, itemsOf, PL.sl, PL.bvP, PL.lvP, PL.kvP, p_vb, asI_i, PL.tgV, PL.tgO, PL.tgC, PL.tgT, PL.andP, PL.orP, PL.notP, PL.iteP, PL.isi, PL.cmp2, PL.appP, PL.thenR, PL.thenB, bind_r, bind_s, wp_ret, bind_ite, kv_of, kb_of, kl_of, kk_of, kf_v, kf_l, kk_val, e_chk, each_nil, each_cons, forN_nil, forN_cons, forB_nil, forB_cons, List.append_nil, List.nil_append, List.cons_append, List.length_cons, List.length_nil, Bool.false_eq_true, if_true, if_false, Bool.not_true, Bool.not_false, Nat.zero_add, Nat.le_refl, Nat.zero_le, isi_none, isi_bool, isi_int, isi_str, isi_list, isi_tuple, isi_dict, dIs, dIsNot, isn_none, isn_int, isn_bool, isn_str, isn_tup, isn_lst, isn_dict, decide_eq_true_eq, Bool.not_eq_true, Nat.reduceLeDiff, Nat.reduceAdd, Nat.reduceSub, reduceIte, ite_self, dAdd_list hl5]
    refine T.wp_mono (forB_wp (S' := Unit) (fun _ => True) _ _ trivial fun v hv s _ => ?_) ?_
    · have fv := all2 v hv
      obtain ⟨b, u1, u2⟩ := L.quest v fv
      have sm : h_same (.bool b) (.bool b) = .ret true := h_same_eq (B := 10) (h := 1) .bool (by decide) (by simp -implicitDefEqProofs only [wt]; decide)
      simp -implicitDefEqProofs only [tgV, wp_ret, notP, bvP, call, ap1, ap2, con, bind_r, u1, u2, sm, iteP, Bool.not_true, Bool.false_eq_true, if_false]
      first | exact ⟨(), rfl, trivial⟩ | exact ⟨(), trivial, trivial⟩
    · intro c hc
      cases hc with | intro s' hc =>
      have ec := hc.1
      clear hc
      cases c with
      | bk s2 => cases ec
      | ct s2 => cases ec
      | rt s2 => cases ec
      | nx s2 => exact ⟨s2, rfl, trivial⟩
theorem lawH_holds {mq myes mpa mf mho mfa mqu mlq : List Sl → T R} {ex : MS} {no : Int} {pq : T DL.D} {pyes : DL.D → T Bool} {ppa : DL.D → T DL.D} {pf : DL.D → DL.D → T DL.D} {pho : DL.D → T Bool} {pfa : DL.D → DL.D → T DL.D} {pqu plq : DL.D → T Bool} {w1 w2 : Str} {px : DL.D → Bool → DL.D → DL.D → List DL.D → T (List DL.D)} {B h W : Nat} {Qs : DL.D → Bool → List DL.D → Prop}
    (fq : Rl KV.rel pq (mq [.o .pool])) (fyes : ∀ a, Rl KB.rel (pyes a) (myes [.v a])) (fpa : ∀ a, Rl KV.rel (ppa a) (mpa [.v a])) (ff : ∀ a b, Rl KV.rel (pf a b) (mf [.v a, .v b])) (fho : ∀ a, Rl KB.rel (pho a) (mho [.v a])) (ffa : ∀ a b, Rl KV.rel (pfa a b) (mfa [.v a, .v b]))
    (fqu : ∀ a, Rl KB.rel (pqu a) (mqu [.v a])) (flq : ∀ a, Rl KB.rel (plq a) (mlq [.v a])) (hx : ∀ d q w t o l, PN (exP d q w t o l) ex (px q w t o l) (fun l' => exP d q w t o l'))
    (L : LawOk no pq pyes ppa pf pho pfa pqu plq w1 w2 px B h W Qs) : (lawH no mq myes mpa mf mho mfa mqu mlq w1 w2 ex ((List.replicate 11 Sl.u).set 1 (.o .pool))).wp fun p => p.1 = .rt (.v (.bool true)) := by
  have h := lawH_is (no := no) (w1 := w1) (w2 := w2) fq fyes fpa ff fho ffa fqu flq hx _ (.cons .anyU (.cons .pool (.cons .anyU (.cons .anyU (.cons .anyU (.cons .anyU (.cons .anyU (.cons .anyU (.cons .anyU (.cons .anyU (.cons .anyU .nil)))))))))))
  refine T.wp_mono (h.wp (lawP_holds L)) ?_
  rintro p ⟨a, rfl, r, e1, e2⟩
  rw [e1, show r = .v (.bool true) from e2]
end PL

namespace DL.Sc
open PySem PySem.Spec PyProof.Rows L2 DL
/- 0, 1 -/
def m_rises : List Sl → T R := fnM 2 (sRet (mB bAll (mCons (mLc (iRngM rng1 (mCons (mBin dSub (mB bLen (mCons (mVar 0) mNil)) (mC (.int 1))) mNil)) (gSet 1) tYesM (mBin dLt (mBin dIx (mVar 0) (mVar 1)) (mBin dIx (mVar 0) (mBin dAdd (mVar 1) (mC (.int 1))))) [1]) mNil)))

/- 0, 1, 2 -/
def m_is_rising_row : List Sl → T R := fnM 3 (sRet (mAndV (mCall m_is_some_row (mCons (mVar 0) (mCons (mVar 1) (mCons (mVar 2) mNil)))) (mCall m_rises (mCons (mVar 0) mNil))))

/- 0, 1 -/
def m_first_true : List Sl → T R := fnM 2 (sSeq (sFor (iRngM rng1 (mCons (mB bLen (mCons (mVar 0) mNil)) mNil)) (gSet 1) (sIf (tOf (mBin dIx (mVar 0) (mVar 1))) (sRet (mVar 1)) sNext))
    (sRet (mC .none)))

/- 0, 1 -/
def m_law_is_up : List Sl → T R := fnM 2 (sRet (mBin dEq (mB bLen (mCons (mLc (iRngM rng2 (mCons (mC (.int 1)) (mCons (mB bLen (mCons (mVar 0) mNil)) mNil))) (gSet 1) (tNotM (tOf (mBin dLt (mBin dIx (mVar 0) (mBin dSub (mVar 1) (mC (.int 1)))) (mBin dIx (mVar 0) (mVar 1))))) (mVar 1) [1]) mNil)) (mC (.int 0))))

/- 0, 1, 2 -/
def m_law_up_row : List Sl → T R := fnM 3 (sRet (mAndV (mCall m_law_is_row (mCons (mVar 0) (mCons (mC .none) (mCons (mVar 1) (mCons (mVar 2) mNil))))) (mCall m_law_is_up (mCons (mVar 0) mNil))))

/- 0, 1, 2, 3 -/
def m_law_some : List Sl → T R := fnM 4 (sRet (mB bTuple (mCons (mLc (iRngM rng1 (mCons (mVar 1) mNil)) (gSet 3) (tOf (mBin dEq (mCall mDraw (mCons (mVar 0) (mCons (mVar 2) mNil))) (mC (.int 0)))) (mVar 3) [3]) mNil)))

/- 0, 1 -/
def m_law_pick : List Sl → T R := fnM 2 (sRet (mBin dIx (mVar 1) (mCall mDraw (mCons (mVar 0) (mCons (mB bLen (mCons (mVar 1) mNil)) mNil)))))

end DL.Sc
namespace PL
open PySem PySem.Spec PyProof.Rows L2 DL
open DL.Sc
/-! ### the checks of forms, in closed form -/
def rowI (v : DL.D) (n : Int) (lo hi : Int) : Bool := match v with | .tuple xs => decide (((xs.length : Nat) : Int) = n) && xs.all fun x => DL.inR x lo hi | _ => false
def lenOk (v : DL.D) : Bool := match v with | .tuple xs => decide (xs.length ≤ 100000) | _ => true
theorem lenOk_w {v : DL.D} (h : wt v ≤ 100000) : lenOk v = true := by
  unfold lenOk
  split
  · rename_i xs
    have := wtA_len xs
    simp only [wt] at h
    exact decide_eq_true (by omega)
  · rfl
theorem lenOk_inv {v : DL.D} (h : lenOk v = true) : ∀ xs, v = .tuple xs → xs.length ≤ 100000 := fun xs e => by
  subst e; exact of_decide_eq_true h
def h_whole (a : DL.D) : T Bool := .ret (isW a)
theorem hf_whole (a : DL.D) : Rl KB.rel (h_whole a) (m_is_whole [.v a]) := by rw [whole_is' a]; exact .ret rfl
def h_int (a : DL.D) : T Bool := .ret (isW a)
theorem hf_int (a : DL.D) : Rl KB.rel (h_int a) (m_law_is_integer [.v a]) := by rw [whole_is a]; exact .ret rfl
def h_from : DL.D → DL.D → DL.D → T Bool
  | a, .int l, .int h => .ret (DL.inR a l h)
  | _, _, _ => .stop
theorem hf_from (a b c : DL.D) : Rl KB.rel (h_from a b c) (m_is_from [.v a, .v b, .v c]) := by
  cases b with
  | int l => cases c with
    | int h => rw [from_is a l h]; exact .ret rfl
    | _ => exact .stop
  | _ => exact .stop
def h_number : DL.D → DL.D → DL.D → T Bool
  | a, .int l, .int h => .ret (DL.inR a l h)
  | _, _, _ => .stop
theorem hf_number (a b c : DL.D) : Rl KB.rel (h_number a b c) (m_law_is_number [.v a, .v b, .v c]) := by
  cases b with
  | int l => cases c with
    | int h => rw [number_is a l h]; exact .ret rfl
    | _ => exact .stop
  | _ => exact .stop
def h_named : DL.D → DL.D → DL.D → T Bool
  | v, .str w, .int n => if 0 < n then .ret (named v w n.toNat) else .stop
  | _, _, _ => .stop
theorem hf_named (a b c : DL.D) : Rl KB.rel (h_named a b c) (m_is_named [.v a, .v b, .v c]) := by
  cases b with
  | str w => cases c with
    | int n =>
      show Rl KB.rel (if 0 < n then .ret (named a w n.toNat) else .stop) _
      split
      · rename_i h
        have := named_is a w n.toNat (by omega)
        rw [Int.toNat_of_nonneg (by omega)] at this
        rw [this]; exact .ret rfl
      · exact .stop
    | _ => exact .stop
  | _ => exact .stop
def h_word : DL.D → DL.D → DL.D → T Bool
  | v, .str w, .int n => if 0 < n then .ret (named v w n.toNat) else .stop
  | _, _, _ => .stop
theorem hf_word (a b c : DL.D) : Rl KB.rel (h_word a b c) (m_law_word [.v a, .v b, .v c]) := by
  cases b with
  | str w => cases c with
    | int n =>
      show Rl KB.rel (if 0 < n then .ret (named a w n.toNat) else .stop) _
      split
      · rename_i h
        have := word_is a w n.toNat (by omega)
        rw [Int.toNat_of_nonneg (by omega)] at this
        rw [this]; exact .ret rfl
      · exact .stop
    | _ => exact .stop
  | _ => exact .stop
def h_some_row : DL.D → DL.D → DL.D → T Bool
  | v, .int l, .int h => if lenOk v = true then .ret (rowB v l h) else .stop
  | _, _, _ => .stop
theorem hf_some_row (a b c : DL.D) : Rl KB.rel (h_some_row a b c) (m_is_some_row [.v a, .v b, .v c]) := by
  cases b with
  | int l => cases c with
    | int h =>
      show Rl KB.rel (if lenOk a = true then .ret (rowB a l h) else .stop) _
      split
      · rename_i q; rw [some_row_is a l h (lenOk_inv q)]; exact .ret rfl
      · exact .stop
    | _ => exact .stop
  | _ => exact .stop
theorem is_row_is (v : DL.D) (n : Int) (lo hi : Int) (hv : ∀ xs, v = .tuple xs → xs.length ≤ 100000) : m_is_row [.v v, .v (.int n), .v (.int lo), .v (.int hi)] = .ret (.v (.bool (rowI v n lo hi))) := by
  cases v with
  | tuple xs =>
    have hl := hv xs rfl
    by_cases h : ((xs.length : Nat) : Int) = n
    · subst h
      have lc := lc_pure (g := gSet 4) (mt := tYesM) (m := mCall m_is_from (mCons (mVar 4) (mCons (mVar 2) (mCons (mVar 3) mNil)))) (vs := [4]) (σ := [.v (.tuple xs), .v (.int xs.length), .v (.int lo), .v (.int hi), .u]) (c := fun _ => true) (f := fun x => .bool (DL.inR x lo hi)) xs fun d _ =>
        ⟨[.v (.tuple xs), .v (.int xs.length), .v (.int lo), .v (.int hi), .v d], rfl, rfl, rfl, fun _ => by simp -implicitDefEqProofs only [e_mC, e_mVar, e_mBin, e_kB1, e_kB2, e_kB3, e_kB4, e_kP, e_mUn, e_kU1, e_kU2, e_mNil, e_mCons, e_kC1, e_kC2, e_mB, e_kA1, e_kA2, e_mTup, e_mLst, e_kT1, e_kL1, e_kJ, e_kJb, e_mIf, e_kI1, e_mAndV, e_kV1, e_kV2, e_mOrV, e_kO1, e_kO2, e_mNotV, e_kN1, e_tOf, e_kQ1, e_tAndM, e_tOrM, e_kAn, e_kOr, e_tNotM, e_tYes, e_toB, e_looks0, e_looks1, e_lookv, e_looko, e_looks, e_Od, e_argv, e_argo, e_args, e_argsOf0, e_argsOf1, e_one, e_mCall, e_kF1, e_kF2, e_kF3, e_at0, e_at1, e_at2, e_at3, e_at4, e_at5, e_at6, e_at7, e_mIsi, e_mSl, e_kS1, e_kS2, e_kS3, e_oNone, e_oSome, e_sNext, e_sSeq, e_kSeq0, e_kSeq1, e_sIf, e_kIf, e_sRet, e_kRet, e_retv, e_reto, e_rets, e_sSet, e_kSt, e_wrO, e_wru, e_wrv, e_wrl, e_storv, e_dic0, e_dic1, e_lookd0, e_storo, e_stors, e_sFor, e_kFor, e_for0, e_for1, e_kBd, e_kGo0, e_kGo1, e_iSeq, e_iRng, e_gSet, e_mLc, e_kLc1, e_kLc2, e_wipe0, e_wipe1, e_frz0, e_frz1, e_frz, e_fnM, e_kFn0, e_kFn1, e_chain, e_put, e_own, bind_ite, wp_ite, bind_draw, bind_r, wp_ret, wp_draw, e_chk, bind_s, pools, O.toD, List.append_nil, List.nil_append, List.cons_append, List.length_cons, List.length_nil, List.replicate, List.getElem?_cons_zero, List.getElem?_cons_succ, List.set, slotsAll, slotsOf, List.flatMap_cons, List.flatMap_nil, Bool.false_eq_true, if_true, if_false, Bool.not_true, Bool.not_false, Nat.zero_add, Nat.le_refl, Nat.zero_le, isi_none, isi_bool, isi_int, isi_str, isi_list, isi_tuple, isi_dict, dIs, dIsNot, isNone, decide_eq_true_eq, Bool.not_eq_true, Nat.reduceLeDiff, Nat.reduceAdd, Nat.reduceSub, itemsOf, from_is]⟩
      rw [filt_all] at lc
      have ba : bAll [.list (xs.map fun x => .bool (DL.inR x lo hi))] = .ret (.v (.bool ((xs.map fun x => DL.inR x lo hi).all id))) := by
        show ofB ((boolsD _).map _) = _
        rw [bools_map]; rfl
      have al : (xs.map fun x => DL.inR x lo hi).all id = xs.all fun x => DL.inR x lo hi := by rw [List.all_map]; rfl
      simp -implicitDefEqProofs only [m_is_row, e_mC, e_mVar, e_mBin, e_kB1, e_kB2, e_kB3, e_kB4, e_kP, e_mUn, e_kU1, e_kU2, e_mNil, e_mCons, e_kC1, e_kC2, e_mB, e_kA1, e_kA2, e_mTup, e_mLst, e_kT1, e_kL1, e_kJ, e_kJb, e_mIf, e_kI1, e_mAndV, e_kV1, e_kV2, e_mOrV, e_kO1, e_kO2, e_mNotV, e_kN1, e_tOf, e_kQ1, e_tAndM, e_tOrM, e_kAn, e_kOr, e_tNotM, e_tYes, e_toB, e_looks0, e_looks1, e_lookv, e_looko, e_looks, e_Od, e_argv, e_argo, e_args, e_argsOf0, e_argsOf1, e_one, e_mCall, e_kF1, e_kF2, e_kF3, e_at0, e_at1, e_at2, e_at3, e_at4, e_at5, e_at6, e_at7, e_mIsi, e_mSl, e_kS1, e_kS2, e_kS3, e_oNone, e_oSome, e_sNext, e_sSeq, e_kSeq0, e_kSeq1, e_sIf, e_kIf, e_sRet, e_kRet, e_retv, e_reto, e_rets, e_sSet, e_kSt, e_wrO, e_wru, e_wrv, e_wrl, e_storv, e_dic0, e_dic1, e_lookd0, e_storo, e_stors, e_sFor, e_kFor, e_for0, e_for1, e_kBd, e_kGo0, e_kGo1, e_iSeq, e_iRng, e_gSet, e_mLc, e_kLc1, e_kLc2, e_wipe0, e_wipe1, e_frz0, e_frz1, e_frz, e_fnM, e_kFn0, e_kFn1, e_chain, e_put, e_own, bind_ite, wp_ite, bind_draw, bind_r, wp_ret, wp_draw, e_chk, bind_s, pools, O.toD, List.append_nil, List.nil_append, List.cons_append, List.length_cons, List.length_nil, List.replicate, List.getElem?_cons_zero, List.getElem?_cons_succ, List.set, slotsAll, slotsOf, List.flatMap_cons, List.flatMap_nil, Bool.false_eq_true, if_true, if_false, Bool.not_true, Bool.not_false, Nat.zero_add, Nat.le_refl, Nat.zero_le, isi_none, isi_bool, isi_int, isi_str, isi_list, isi_tuple, isi_dict, dIs, dIsNot, isNone, decide_eq_true_eq, Bool.not_eq_true, Nat.reduceLeDiff, Nat.reduceAdd, Nat.reduceSub, itemsOf, bLen_tup, dEq_int, decide_true, hl, lc, out, List.filter_nil, ba, al, rowI, Bool.true_and]
    · simp -implicitDefEqProofs only [m_is_row, e_mC, e_mVar, e_mBin, e_kB1, e_kB2, e_kB3, e_kB4, e_kP, e_mUn, e_kU1, e_kU2, e_mNil, e_mCons, e_kC1, e_kC2, e_mB, e_kA1, e_kA2, e_mTup, e_mLst, e_kT1, e_kL1, e_kJ, e_kJb, e_mIf, e_kI1, e_mAndV, e_kV1, e_kV2, e_mOrV, e_kO1, e_kO2, e_mNotV, e_kN1, e_tOf, e_kQ1, e_tAndM, e_tOrM, e_kAn, e_kOr, e_tNotM, e_tYes, e_toB, e_looks0, e_looks1, e_lookv, e_looko, e_looks, e_Od, e_argv, e_argo, e_args, e_argsOf0, e_argsOf1, e_one, e_mCall, e_kF1, e_kF2, e_kF3, e_at0, e_at1, e_at2, e_at3, e_at4, e_at5, e_at6, e_at7, e_mIsi, e_mSl, e_kS1, e_kS2, e_kS3, e_oNone, e_oSome, e_sNext, e_sSeq, e_kSeq0, e_kSeq1, e_sIf, e_kIf, e_sRet, e_kRet, e_retv, e_reto, e_rets, e_sSet, e_kSt, e_wrO, e_wru, e_wrv, e_wrl, e_storv, e_dic0, e_dic1, e_lookd0, e_storo, e_stors, e_sFor, e_kFor, e_for0, e_for1, e_kBd, e_kGo0, e_kGo1, e_iSeq, e_iRng, e_gSet, e_mLc, e_kLc1, e_kLc2, e_wipe0, e_wipe1, e_frz0, e_frz1, e_frz, e_fnM, e_kFn0, e_kFn1, e_chain, e_put, e_own, bind_ite, wp_ite, bind_draw, bind_r, wp_ret, wp_draw, e_chk, bind_s, pools, O.toD, List.append_nil, List.nil_append, List.cons_append, List.length_cons, List.length_nil, List.replicate, List.getElem?_cons_zero, List.getElem?_cons_succ, List.set, slotsAll, slotsOf, List.flatMap_cons, List.flatMap_nil, Bool.false_eq_true, if_true, if_false, Bool.not_true, Bool.not_false, Nat.zero_add, Nat.le_refl, Nat.zero_le, isi_none, isi_bool, isi_int, isi_str, isi_list, isi_tuple, isi_dict, dIs, dIsNot, isNone, decide_eq_true_eq, Bool.not_eq_true, Nat.reduceLeDiff, Nat.reduceAdd, Nat.reduceSub, itemsOf, bLen_tup, dEq_int, h, decide_false, rowI, Bool.false_and]
  | _ => simp -implicitDefEqProofs only [m_is_row, e_mC, e_mVar, e_mBin, e_kB1, e_kB2, e_kB3, e_kB4, e_kP, e_mUn, e_kU1, e_kU2, e_mNil, e_mCons, e_kC1, e_kC2, e_mB, e_kA1, e_kA2, e_mTup, e_mLst, e_kT1, e_kL1, e_kJ, e_kJb, e_mIf, e_kI1, e_mAndV, e_kV1, e_kV2, e_mOrV, e_kO1, e_kO2, e_mNotV, e_kN1, e_tOf, e_kQ1, e_tAndM, e_tOrM, e_kAn, e_kOr, e_tNotM, e_tYes, e_toB, e_looks0, e_looks1, e_lookv, e_looko, e_looks, e_Od, e_argv, e_argo, e_args, e_argsOf0, e_argsOf1, e_one, e_mCall, e_kF1, e_kF2, e_kF3, e_at0, e_at1, e_at2, e_at3, e_at4, e_at5, e_at6, e_at7, e_mIsi, e_mSl, e_kS1, e_kS2, e_kS3, e_oNone, e_oSome, e_sNext, e_sSeq, e_kSeq0, e_kSeq1, e_sIf, e_kIf, e_sRet, e_kRet, e_retv, e_reto, e_rets, e_sSet, e_kSt, e_wrO, e_wru, e_wrv, e_wrl, e_storv, e_dic0, e_dic1, e_lookd0, e_storo, e_stors, e_sFor, e_kFor, e_for0, e_for1, e_kBd, e_kGo0, e_kGo1, e_iSeq, e_iRng, e_gSet, e_mLc, e_kLc1, e_kLc2, e_wipe0, e_wipe1, e_frz0, e_frz1, e_frz, e_fnM, e_kFn0, e_kFn1, e_chain, e_put, e_own, bind_ite, wp_ite, bind_draw, bind_r, wp_ret, wp_draw, e_chk, bind_s, pools, O.toD, List.append_nil, List.nil_append, List.cons_append, List.length_cons, List.length_nil, List.replicate, List.getElem?_cons_zero, List.getElem?_cons_succ, List.set, slotsAll, slotsOf, List.flatMap_cons, List.flatMap_nil, Bool.false_eq_true, if_true, if_false, Bool.not_true, Bool.not_false, Nat.zero_add, Nat.le_refl, Nat.zero_le, isi_none, isi_bool, isi_int, isi_str, isi_list, isi_tuple, isi_dict, dIs, dIsNot, isNone, decide_eq_true_eq, Bool.not_eq_true, Nat.reduceLeDiff, Nat.reduceAdd, Nat.reduceSub, itemsOf, rowI]
theorem law_row_is (v : DL.D) (n : Int) (lo hi : Int) (hv : ∀ xs, v = .tuple xs → xs.length ≤ 100000) : m_law_is_row [.v v, .v (.int n), .v (.int lo), .v (.int hi)] = .ret (.v (.bool (rowI v n lo hi))) := by
  cases v with
  | tuple xs =>
    have hl := hv xs rfl
    by_cases h : ((xs.length : Nat) : Int) = n
    · subst h
      have lc := lc_pure (g := gSet 4) (mt := tOrM (tNotM (tOf (mCall m_law_is_integer (mCons (mVar 4) mNil)))) (tOrM (tOf (mBin dLt (mVar 4) (mVar 2))) (tOf (mBin dGt (mVar 4) (mVar 3))))) (m := mVar 4) (vs := [4]) (σ := [.v (.tuple xs), .v (.int xs.length), .v (.int lo), .v (.int hi), .u]) (c := fun x => !DL.inR x lo hi) (f := fun x => x) xs fun d _ =>
        ⟨[.v (.tuple xs), .v (.int xs.length), .v (.int lo), .v (.int hi), .v d], rfl, by
          cases d with
          | int i =>
            simp -implicitDefEqProofs only [e_mC, e_mVar, e_mBin, e_kB1, e_kB2, e_kB3, e_kB4, e_kP, e_mUn, e_kU1, e_kU2, e_mNil, e_mCons, e_kC1, e_kC2, e_mB, e_kA1, e_kA2, e_mTup, e_mLst, e_kT1, e_kL1, e_kJ, e_kJb, e_mIf, e_kI1, e_mAndV, e_kV1, e_kV2, e_mOrV, e_kO1, e_kO2, e_mNotV, e_kN1, e_tOf, e_kQ1, e_tAndM, e_tOrM, e_kAn, e_kOr, e_tNotM, e_tYes, e_toB, e_looks0, e_looks1, e_lookv, e_looko, e_looks, e_Od, e_argv, e_argo, e_args, e_argsOf0, e_argsOf1, e_one, e_mCall, e_kF1, e_kF2, e_kF3, e_at0, e_at1, e_at2, e_at3, e_at4, e_at5, e_at6, e_at7, e_mIsi, e_mSl, e_kS1, e_kS2, e_kS3, e_oNone, e_oSome, e_sNext, e_sSeq, e_kSeq0, e_kSeq1, e_sIf, e_kIf, e_sRet, e_kRet, e_retv, e_reto, e_rets, e_sSet, e_kSt, e_wrO, e_wru, e_wrv, e_wrl, e_storv, e_dic0, e_dic1, e_lookd0, e_storo, e_stors, e_sFor, e_kFor, e_for0, e_for1, e_kBd, e_kGo0, e_kGo1, e_iSeq, e_iRng, e_gSet, e_mLc, e_kLc1, e_kLc2, e_wipe0, e_wipe1, e_frz0, e_frz1, e_frz, e_fnM, e_kFn0, e_kFn1, e_chain, e_put, e_own, bind_ite, wp_ite, bind_draw, bind_r, wp_ret, wp_draw, e_chk, bind_s, pools, O.toD, List.append_nil, List.nil_append, List.cons_append, List.length_cons, List.length_nil, List.replicate, List.getElem?_cons_zero, List.getElem?_cons_succ, List.set, slotsAll, slotsOf, List.flatMap_cons, List.flatMap_nil, Bool.false_eq_true, if_true, if_false, Bool.not_true, Bool.not_false, Nat.zero_add, Nat.le_refl, Nat.zero_le, isi_none, isi_bool, isi_int, isi_str, isi_list, isi_tuple, isi_dict, dIs, dIsNot, isNone, decide_eq_true_eq, Bool.not_eq_true, Nat.reduceLeDiff, Nat.reduceAdd, Nat.reduceSub, itemsOf, whole_is, isW, dLt_int, dGt_int, DL.inR]
            by_cases h : i < lo
            · have h2 : ¬ lo ≤ i := by omega
              simp -implicitDefEqProofs only [h, h2, e_mC, e_mVar, e_mBin, e_kB1, e_kB2, e_kB3, e_kB4, e_kP, e_mUn, e_kU1, e_kU2, e_mNil, e_mCons, e_kC1, e_kC2, e_mB, e_kA1, e_kA2, e_mTup, e_mLst, e_kT1, e_kL1, e_kJ, e_kJb, e_mIf, e_kI1, e_mAndV, e_kV1, e_kV2, e_mOrV, e_kO1, e_kO2, e_mNotV, e_kN1, e_tOf, e_kQ1, e_tAndM, e_tOrM, e_kAn, e_kOr, e_tNotM, e_tYes, e_toB, e_looks0, e_looks1, e_lookv, e_looko, e_looks, e_Od, e_argv, e_argo, e_args, e_argsOf0, e_argsOf1, e_one, e_mCall, e_kF1, e_kF2, e_kF3, e_at0, e_at1, e_at2, e_at3, e_at4, e_at5, e_at6, e_at7, e_mIsi, e_mSl, e_kS1, e_kS2, e_kS3, e_oNone, e_oSome, e_sNext, e_sSeq, e_kSeq0, e_kSeq1, e_sIf, e_kIf, e_sRet, e_kRet, e_retv, e_reto, e_rets, e_sSet, e_kSt, e_wrO, e_wru, e_wrv, e_wrl, e_storv, e_dic0, e_dic1, e_lookd0, e_storo, e_stors, e_sFor, e_kFor, e_for0, e_for1, e_kBd, e_kGo0, e_kGo1, e_iSeq, e_iRng, e_gSet, e_mLc, e_kLc1, e_kLc2, e_wipe0, e_wipe1, e_frz0, e_frz1, e_frz, e_fnM, e_kFn0, e_kFn1, e_chain, e_put, e_own, bind_ite, wp_ite, bind_draw, bind_r, wp_ret, wp_draw, e_chk, bind_s, pools, O.toD, List.append_nil, List.nil_append, List.cons_append, List.length_cons, List.length_nil, List.replicate, List.getElem?_cons_zero, List.getElem?_cons_succ, List.set, slotsAll, slotsOf, List.flatMap_cons, List.flatMap_nil, Bool.false_eq_true, if_true, if_false, Bool.not_true, Bool.not_false, Nat.zero_add, Nat.le_refl, Nat.zero_le, isi_none, isi_bool, isi_int, isi_str, isi_list, isi_tuple, isi_dict, dIs, dIsNot, isNone, decide_eq_true_eq, Bool.not_eq_true, Nat.reduceLeDiff, Nat.reduceAdd, Nat.reduceSub, itemsOf, decide_true, decide_false, Bool.false_and]
            · have h2 : lo ≤ i := by omega
              simp -implicitDefEqProofs only [h, h2, e_mC, e_mVar, e_mBin, e_kB1, e_kB2, e_kB3, e_kB4, e_kP, e_mUn, e_kU1, e_kU2, e_mNil, e_mCons, e_kC1, e_kC2, e_mB, e_kA1, e_kA2, e_mTup, e_mLst, e_kT1, e_kL1, e_kJ, e_kJb, e_mIf, e_kI1, e_mAndV, e_kV1, e_kV2, e_mOrV, e_kO1, e_kO2, e_mNotV, e_kN1, e_tOf, e_kQ1, e_tAndM, e_tOrM, e_kAn, e_kOr, e_tNotM, e_tYes, e_toB, e_looks0, e_looks1, e_lookv, e_looko, e_looks, e_Od, e_argv, e_argo, e_args, e_argsOf0, e_argsOf1, e_one, e_mCall, e_kF1, e_kF2, e_kF3, e_at0, e_at1, e_at2, e_at3, e_at4, e_at5, e_at6, e_at7, e_mIsi, e_mSl, e_kS1, e_kS2, e_kS3, e_oNone, e_oSome, e_sNext, e_sSeq, e_kSeq0, e_kSeq1, e_sIf, e_kIf, e_sRet, e_kRet, e_retv, e_reto, e_rets, e_sSet, e_kSt, e_wrO, e_wru, e_wrv, e_wrl, e_storv, e_dic0, e_dic1, e_lookd0, e_storo, e_stors, e_sFor, e_kFor, e_for0, e_for1, e_kBd, e_kGo0, e_kGo1, e_iSeq, e_iRng, e_gSet, e_mLc, e_kLc1, e_kLc2, e_wipe0, e_wipe1, e_frz0, e_frz1, e_frz, e_fnM, e_kFn0, e_kFn1, e_chain, e_put, e_own, bind_ite, wp_ite, bind_draw, bind_r, wp_ret, wp_draw, e_chk, bind_s, pools, O.toD, List.append_nil, List.nil_append, List.cons_append, List.length_cons, List.length_nil, List.replicate, List.getElem?_cons_zero, List.getElem?_cons_succ, List.set, slotsAll, slotsOf, List.flatMap_cons, List.flatMap_nil, Bool.false_eq_true, if_true, if_false, Bool.not_true, Bool.not_false, Nat.zero_add, Nat.le_refl, Nat.zero_le, isi_none, isi_bool, isi_int, isi_str, isi_list, isi_tuple, isi_dict, dIs, dIsNot, isNone, decide_eq_true_eq, Bool.not_eq_true, Nat.reduceLeDiff, Nat.reduceAdd, Nat.reduceSub, itemsOf, decide_true, decide_false, Bool.true_and]
              by_cases h3 : i ≤ hi
              · have h4 : ¬ hi < i := by omega
                simp only [h3, h4, decide_true, decide_false, Bool.not_true]
              · have h4 : hi < i := by omega
                simp only [h3, h4, decide_true, decide_false, Bool.not_false]
          | _ => simp -implicitDefEqProofs only [e_mC, e_mVar, e_mBin, e_kB1, e_kB2, e_kB3, e_kB4, e_kP, e_mUn, e_kU1, e_kU2, e_mNil, e_mCons, e_kC1, e_kC2, e_mB, e_kA1, e_kA2, e_mTup, e_mLst, e_kT1, e_kL1, e_kJ, e_kJb, e_mIf, e_kI1, e_mAndV, e_kV1, e_kV2, e_mOrV, e_kO1, e_kO2, e_mNotV, e_kN1, e_tOf, e_kQ1, e_tAndM, e_tOrM, e_kAn, e_kOr, e_tNotM, e_tYes, e_toB, e_looks0, e_looks1, e_lookv, e_looko, e_looks, e_Od, e_argv, e_argo, e_args, e_argsOf0, e_argsOf1, e_one, e_mCall, e_kF1, e_kF2, e_kF3, e_at0, e_at1, e_at2, e_at3, e_at4, e_at5, e_at6, e_at7, e_mIsi, e_mSl, e_kS1, e_kS2, e_kS3, e_oNone, e_oSome, e_sNext, e_sSeq, e_kSeq0, e_kSeq1, e_sIf, e_kIf, e_sRet, e_kRet, e_retv, e_reto, e_rets, e_sSet, e_kSt, e_wrO, e_wru, e_wrv, e_wrl, e_storv, e_dic0, e_dic1, e_lookd0, e_storo, e_stors, e_sFor, e_kFor, e_for0, e_for1, e_kBd, e_kGo0, e_kGo1, e_iSeq, e_iRng, e_gSet, e_mLc, e_kLc1, e_kLc2, e_wipe0, e_wipe1, e_frz0, e_frz1, e_frz, e_fnM, e_kFn0, e_kFn1, e_chain, e_put, e_own, bind_ite, wp_ite, bind_draw, bind_r, wp_ret, wp_draw, e_chk, bind_s, pools, O.toD, List.append_nil, List.nil_append, List.cons_append, List.length_cons, List.length_nil, List.replicate, List.getElem?_cons_zero, List.getElem?_cons_succ, List.set, slotsAll, slotsOf, List.flatMap_cons, List.flatMap_nil, Bool.false_eq_true, if_true, if_false, Bool.not_true, Bool.not_false, Nat.zero_add, Nat.le_refl, Nat.zero_le, isi_none, isi_bool, isi_int, isi_str, isi_list, isi_tuple, isi_dict, dIs, dIsNot, isNone, decide_eq_true_eq, Bool.not_eq_true, Nat.reduceLeDiff, Nat.reduceAdd, Nat.reduceSub, itemsOf, whole_is, isW, DL.inR], rfl, fun _ => rfl⟩
      simp -implicitDefEqProofs only [m_law_is_row, e_mC, e_mVar, e_mBin, e_kB1, e_kB2, e_kB3, e_kB4, e_kP, e_mUn, e_kU1, e_kU2, e_mNil, e_mCons, e_kC1, e_kC2, e_mB, e_kA1, e_kA2, e_mTup, e_mLst, e_kT1, e_kL1, e_kJ, e_kJb, e_mIf, e_kI1, e_mAndV, e_kV1, e_kV2, e_mOrV, e_kO1, e_kO2, e_mNotV, e_kN1, e_tOf, e_kQ1, e_tAndM, e_tOrM, e_kAn, e_kOr, e_tNotM, e_tYes, e_toB, e_looks0, e_looks1, e_lookv, e_looko, e_looks, e_Od, e_argv, e_argo, e_args, e_argsOf0, e_argsOf1, e_one, e_mCall, e_kF1, e_kF2, e_kF3, e_at0, e_at1, e_at2, e_at3, e_at4, e_at5, e_at6, e_at7, e_mIsi, e_mSl, e_kS1, e_kS2, e_kS3, e_oNone, e_oSome, e_sNext, e_sSeq, e_kSeq0, e_kSeq1, e_sIf, e_kIf, e_sRet, e_kRet, e_retv, e_reto, e_rets, e_sSet, e_kSt, e_wrO, e_wru, e_wrv, e_wrl, e_storv, e_dic0, e_dic1, e_lookd0, e_storo, e_stors, e_sFor, e_kFor, e_for0, e_for1, e_kBd, e_kGo0, e_kGo1, e_iSeq, e_iRng, e_gSet, e_mLc, e_kLc1, e_kLc2, e_wipe0, e_wipe1, e_frz0, e_frz1, e_frz, e_fnM, e_kFn0, e_kFn1, e_chain, e_put, e_own, bind_ite, wp_ite, bind_draw, bind_r, wp_ret, wp_draw, e_chk, bind_s, pools, O.toD, List.append_nil, List.nil_append, List.cons_append, List.length_cons, List.length_nil, List.replicate, List.getElem?_cons_zero, List.getElem?_cons_succ, List.set, slotsAll, slotsOf, List.flatMap_cons, List.flatMap_nil, Bool.false_eq_true, if_true, if_false, Bool.not_true, Bool.not_false, Nat.zero_add, Nat.le_refl, Nat.zero_le, isi_none, isi_bool, isi_int, isi_str, isi_list, isi_tuple, isi_dict, dIs, dIsNot, isNone, decide_eq_true_eq, Bool.not_eq_true, Nat.reduceLeDiff, Nat.reduceAdd, Nat.reduceSub, itemsOf, hl, lc, out, List.filter_nil, bLen_list, bLen_tup, dEq_int, dNe_int, decide_true, none_all, rowI, Bool.true_and]
    · simp -implicitDefEqProofs only [m_law_is_row, e_mC, e_mVar, e_mBin, e_kB1, e_kB2, e_kB3, e_kB4, e_kP, e_mUn, e_kU1, e_kU2, e_mNil, e_mCons, e_kC1, e_kC2, e_mB, e_kA1, e_kA2, e_mTup, e_mLst, e_kT1, e_kL1, e_kJ, e_kJb, e_mIf, e_kI1, e_mAndV, e_kV1, e_kV2, e_mOrV, e_kO1, e_kO2, e_mNotV, e_kN1, e_tOf, e_kQ1, e_tAndM, e_tOrM, e_kAn, e_kOr, e_tNotM, e_tYes, e_toB, e_looks0, e_looks1, e_lookv, e_looko, e_looks, e_Od, e_argv, e_argo, e_args, e_argsOf0, e_argsOf1, e_one, e_mCall, e_kF1, e_kF2, e_kF3, e_at0, e_at1, e_at2, e_at3, e_at4, e_at5, e_at6, e_at7, e_mIsi, e_mSl, e_kS1, e_kS2, e_kS3, e_oNone, e_oSome, e_sNext, e_sSeq, e_kSeq0, e_kSeq1, e_sIf, e_kIf, e_sRet, e_kRet, e_retv, e_reto, e_rets, e_sSet, e_kSt, e_wrO, e_wru, e_wrv, e_wrl, e_storv, e_dic0, e_dic1, e_lookd0, e_storo, e_stors, e_sFor, e_kFor, e_for0, e_for1, e_kBd, e_kGo0, e_kGo1, e_iSeq, e_iRng, e_gSet, e_mLc, e_kLc1, e_kLc2, e_wipe0, e_wipe1, e_frz0, e_frz1, e_frz, e_fnM, e_kFn0, e_kFn1, e_chain, e_put, e_own, bind_ite, wp_ite, bind_draw, bind_r, wp_ret, wp_draw, e_chk, bind_s, pools, O.toD, List.append_nil, List.nil_append, List.cons_append, List.length_cons, List.length_nil, List.replicate, List.getElem?_cons_zero, List.getElem?_cons_succ, List.set, slotsAll, slotsOf, List.flatMap_cons, List.flatMap_nil, Bool.false_eq_true, if_true, if_false, Bool.not_true, Bool.not_false, Nat.zero_add, Nat.le_refl, Nat.zero_le, isi_none, isi_bool, isi_int, isi_str, isi_list, isi_tuple, isi_dict, dIs, dIsNot, isNone, decide_eq_true_eq, Bool.not_eq_true, Nat.reduceLeDiff, Nat.reduceAdd, Nat.reduceSub, itemsOf, bLen_tup, dNe_int, h, decide_false, rowI, Bool.false_and]
  | _ => simp -implicitDefEqProofs only [m_law_is_row, e_mC, e_mVar, e_mBin, e_kB1, e_kB2, e_kB3, e_kB4, e_kP, e_mUn, e_kU1, e_kU2, e_mNil, e_mCons, e_kC1, e_kC2, e_mB, e_kA1, e_kA2, e_mTup, e_mLst, e_kT1, e_kL1, e_kJ, e_kJb, e_mIf, e_kI1, e_mAndV, e_kV1, e_kV2, e_mOrV, e_kO1, e_kO2, e_mNotV, e_kN1, e_tOf, e_kQ1, e_tAndM, e_tOrM, e_kAn, e_kOr, e_tNotM, e_tYes, e_toB, e_looks0, e_looks1, e_lookv, e_looko, e_looks, e_Od, e_argv, e_argo, e_args, e_argsOf0, e_argsOf1, e_one, e_mCall, e_kF1, e_kF2, e_kF3, e_at0, e_at1, e_at2, e_at3, e_at4, e_at5, e_at6, e_at7, e_mIsi, e_mSl, e_kS1, e_kS2, e_kS3, e_oNone, e_oSome, e_sNext, e_sSeq, e_kSeq0, e_kSeq1, e_sIf, e_kIf, e_sRet, e_kRet, e_retv, e_reto, e_rets, e_sSet, e_kSt, e_wrO, e_wru, e_wrv, e_wrl, e_storv, e_dic0, e_dic1, e_lookd0, e_storo, e_stors, e_sFor, e_kFor, e_for0, e_for1, e_kBd, e_kGo0, e_kGo1, e_iSeq, e_iRng, e_gSet, e_mLc, e_kLc1, e_kLc2, e_wipe0, e_wipe1, e_frz0, e_frz1, e_frz, e_fnM, e_kFn0, e_kFn1, e_chain, e_put, e_own, bind_ite, wp_ite, bind_draw, bind_r, wp_ret, wp_draw, e_chk, bind_s, pools, O.toD, List.append_nil, List.nil_append, List.cons_append, List.length_cons, List.length_nil, List.replicate, List.getElem?_cons_zero, List.getElem?_cons_succ, List.set, slotsAll, slotsOf, List.flatMap_cons, List.flatMap_nil, Bool.false_eq_true, if_true, if_false, Bool.not_true, Bool.not_false, Nat.zero_add, Nat.le_refl, Nat.zero_le, isi_none, isi_bool, isi_int, isi_str, isi_list, isi_tuple, isi_dict, dIs, dIsNot, isNone, decide_eq_true_eq, Bool.not_eq_true, Nat.reduceLeDiff, Nat.reduceAdd, Nat.reduceSub, itemsOf, rowI]
def h_row : DL.D → DL.D → DL.D → DL.D → T Bool
  | v, .int n, .int l, .int h => if lenOk v = true then .ret (rowI v n l h) else .stop
  | _, _, _, _ => .stop
theorem hf_row (a n b c : DL.D) : Rl KB.rel (h_row a n b c) (m_is_row [.v a, .v n, .v b, .v c]) := by
  cases n with
  | int n => cases b with
    | int l => cases c with
      | int h =>
        show Rl KB.rel (if lenOk a = true then .ret (rowI a n l h) else .stop) _
        split
        · rename_i q; rw [is_row_is a n l h (lenOk_inv q)]; exact .ret rfl
        · exact .stop
      | _ => exact .stop
    | _ => exact .stop
  | _ => exact .stop
def h_lrow : DL.D → DL.D → DL.D → DL.D → T Bool
  | v, .int n, .int l, .int h => if lenOk v = true then .ret (rowI v n l h) else .stop
  | v, .none, .int l, .int h => if lenOk v = true then .ret (rowB v l h) else .stop
  | _, _, _, _ => .stop
theorem hf_lrow (a n b c : DL.D) : Rl KB.rel (h_lrow a n b c) (m_law_is_row [.v a, .v n, .v b, .v c]) := by
  cases n with
  | int n => cases b with
    | int l => cases c with
      | int h =>
        show Rl KB.rel (if lenOk a = true then .ret (rowI a n l h) else .stop) _
        split
        · rename_i q; rw [law_row_is a n l h (lenOk_inv q)]; exact .ret rfl
        · exact .stop
      | _ => exact .stop
    | _ => exact .stop
  | none => cases b with
    | int l => cases c with
      | int h =>
        show Rl KB.rel (if lenOk a = true then .ret (rowB a l h) else .stop) _
        split
        · rename_i q; rw [row_is a l h (lenOk_inv q)]; exact .ret rfl
        · exact .stop
      | _ => exact .stop
    | _ => exact .stop
  | _ => exact .stop
def p_rises (a0 : DL.D) : T Bool := (blt KB bAll (con (lvP (lcP tgV (fun k_2 => (T.ret true)) (fun k_2 => (bvP (bin KB dLt (bin KV dIx (T.ret a0) (T.ret k_2)) (bin KV dIx (T.ret a0) (bin KV dAdd (T.ret k_2) (T.ret ((.int 1) : DL.D))))))) (T.bind (con (bin KV dSub (blt KV bLen (con (T.ret a0) (T.ret []))) (T.ret ((.int 1) : DL.D))) (T.ret [])) rng1))) (T.ret [])))
theorem pf_rises (a0 : DL.D) : Rl KB.rel (p_rises a0) (m_rises [.v a0]) := fn_of (π := [.v a0, .any]) (n := 2) (sl := [.v a0]) (κ := KB) (pr_ret (pe_b (pa_cons (po_s (ps_of (pe_lc (pi_rng (pa_cons (po_s (ps_v (pe_bin (po_s (ps_v (pe_b (pa_cons (po_s (ps_v (pe_var rfl))) pa_nil)))) (po_s (ps_v pe_c))))) pa_nil)) (pg_set rfl) (fun k_2 => pt_yes) (fun k_2 => (ps_of (pe_bin (po_s (ps_v (pe_bin (po_s (ps_v (pe_var rfl))) (po_s (ps_v (pe_var rfl)))))) (po_s (ps_v (pe_bin (po_s (ps_v (pe_var rfl))) (po_s (ps_v (pe_bin (po_s (ps_v (pe_var rfl))) (po_s (ps_v pe_c))))))))))) (fun _ => rfl)))) pa_nil))) (.cons (.v _) (.cons .anyU .nil))
def p_is_rising_row (a0 a1 a2 : DL.D) : T Bool := (andP (call (ap3 h_some_row) (con (T.ret a0) (con (T.ret a1) (con (T.ret a2) (T.ret []))))) (call (ap1 p_rises) (con (T.ret a0) (T.ret []))))
theorem pf_is_rising_row (a0 a1 a2 : DL.D) : Rl KB.rel (p_is_rising_row a0 a1 a2) (m_is_rising_row [.v a0, .v a1, .v a2]) := fn_of (π := [.v a0, .v a1, .v a2]) (n := 3) (sl := [.v a0, .v a1, .v a2]) (κ := KB) (pr_ret (pe_and (pe_call (rl3 hf_some_row) (pas_cons (ps_v (pe_var rfl)) (pas_cons (ps_v (pe_var rfl)) (pas_cons (ps_v (pe_var rfl)) pas_nil)))) (pe_call (rl1 pf_rises) (pas_cons (ps_v (pe_var rfl)) pas_nil)))) (.cons (.v _) (.cons (.v _) (.cons (.v _) .nil)))
def p_first_true (a0 : DL.D) : T DL.D := (thenR (S := Unit) (T.bind (T.bind (con (blt KV bLen (con (T.ret a0) (T.ret []))) (T.ret [])) rng1) fun ds => forB (S := Unit) (S' := Unit) tgV (fun s2 k_4 =>
      (iteP (vbP (bin KV dIx (T.ret a0) (T.ret k_4)))
      (T.bind (T.ret k_4) fun x => T.ret (Ct.rt x : Ct Unit Unit DL.D))
      (T.ret (Ct.nx () : Ct Unit Unit DL.D)))) () ds) fun s5 =>
    (T.ret (.none : DL.D)))
theorem pf_first_true (a0 : DL.D) : Rl KV.rel (p_first_true a0) (m_first_true [.v a0]) := fn_of (π := [.v a0, .any]) (n := 2) (sl := [.v a0]) (κ := KV) (pr_seqB (po := fun (_ : Unit) => []) (pb_for (po := (fun (s2 : Unit) => [.v a0, .any])) () (pi_rng (pa_cons (po_s (ps_v (pe_b (pa_cons (po_s (ps_v (pe_var rfl))) pa_nil)))) pa_nil)) (by exact (.same (.same .nil))) (fun s2 => (pg_set rfl)) (fun s2 k_4 => (pb_if (pt_of (pe_vb (pe_bin (po_s (ps_v (pe_var rfl))) (po_s (ps_v (pe_var rfl)))))) (pb_r (pr_ret (pe_var rfl))) (pb_nextE (s := ()) (by exact (.same (.any rfl .nil))))))) (fun s5 => (pr_ret pe_c))) (.cons (.v _) (.cons .anyU .nil))
def p_first_of (a0 : DL.D) : T DL.D := (thenR (S := Unit) (T.bind (items (T.ret a0)) fun ds => forB (S := Unit) (S' := Unit) tgV (fun s2 fault_4 =>
      (iteP (bin KB dIsNot (T.ret fault_4) (T.ret (.none : DL.D)))
      (T.bind (T.ret fault_4) fun x => T.ret (Ct.rt x : Ct Unit Unit DL.D))
      (T.ret (Ct.nx () : Ct Unit Unit DL.D)))) () ds) fun s5 =>
    (T.ret (.none : DL.D)))
theorem pf_first_of (a0 : DL.D) : Rl KV.rel (p_first_of a0) (m_first_of [.v a0]) := fn_of (π := [.v a0, .any]) (n := 2) (sl := [.v a0]) (κ := KV) (pr_seqB (po := fun (_ : Unit) => []) (pb_for (po := (fun (s2 : Unit) => [.v a0, .any])) () (pi_seq (ps_v (pe_var rfl))) (by exact (.same (.same .nil))) (fun s2 => (pg_set rfl)) (fun s2 fault_4 => (pb_if (pt_of (pe_bin (po_s (ps_v (pe_var rfl))) (po_s (ps_v pe_c)))) (pb_r (pr_ret (pe_var rfl))) (pb_nextE (s := ()) (by exact (.same (.any rfl .nil))))))) (fun s5 => (pr_ret pe_c))) (.cons (.v _) (.cons .anyU .nil))
def p_fault_at (a0 a1 : DL.D) : T DL.D := (iteP (bin KB dIs (T.ret a1) (T.ret (.none : DL.D))) (T.ret (.none : DL.D)) (tup (con (T.ret a0) (con (T.ret a1) (T.ret [])))))
theorem pf_fault_at (a0 a1 : DL.D) : Rl KV.rel (p_fault_at a0 a1) (m_fault_at [.v a0, .v a1]) := fn_of (π := [.v a0, .v a1]) (n := 2) (sl := [.v a0, .v a1]) (κ := KV) (pr_ret (pe_if (pt_of (pe_bin (po_s (ps_v (pe_var rfl))) (po_s (ps_v pe_c)))) pe_c (pe_tup (pas_cons (ps_v (pe_var rfl)) (pas_cons (ps_v (pe_var rfl)) pas_nil))))) (.cons (.v _) (.cons (.v _) .nil))
def p_law_is_up (a0 : DL.D) : T Bool := (bin KB dEq (blt KV bLen (con (lvP (lcP tgV (fun k_2 => (notP (bin KB dLt (bin KV dIx (T.ret a0) (bin KV dSub (T.ret k_2) (T.ret ((.int 1) : DL.D)))) (bin KV dIx (T.ret a0) (T.ret k_2))))) (fun k_2 => (T.ret k_2)) (T.bind (con (T.ret ((.int 1) : DL.D)) (con (blt KV bLen (con (T.ret a0) (T.ret []))) (T.ret []))) rng2))) (T.ret []))) (T.ret ((.int 0) : DL.D)))
theorem pf_law_is_up (a0 : DL.D) : Rl KB.rel (p_law_is_up a0) (m_law_is_up [.v a0]) := fn_of (π := [.v a0, .any]) (n := 2) (sl := [.v a0]) (κ := KB) (pr_ret (pe_bin (po_s (ps_v (pe_b (pa_cons (po_s (ps_of (pe_lc (pi_rng (pa_cons (po_s (ps_v pe_c)) (pa_cons (po_s (ps_v (pe_b (pa_cons (po_s (ps_v (pe_var rfl))) pa_nil)))) pa_nil))) (pg_set rfl) (fun k_2 => (pt_not (pt_of (pe_bin (po_s (ps_v (pe_bin (po_s (ps_v (pe_var rfl))) (po_s (ps_v (pe_bin (po_s (ps_v (pe_var rfl))) (po_s (ps_v pe_c)))))))) (po_s (ps_v (pe_bin (po_s (ps_v (pe_var rfl))) (po_s (ps_v (pe_var rfl)))))))))) (fun k_2 => (ps_v (pe_var rfl))) (fun _ => rfl)))) pa_nil)))) (po_s (ps_v pe_c)))) (.cons (.v _) (.cons .anyU .nil))
def p_law_up_row (a0 a1 a2 : DL.D) : T Bool := (andP (call (ap4 h_lrow) (con (T.ret a0) (con (T.ret (.none : DL.D)) (con (T.ret a1) (con (T.ret a2) (T.ret [])))))) (call (ap1 p_law_is_up) (con (T.ret a0) (T.ret []))))
theorem pf_law_up_row (a0 a1 a2 : DL.D) : Rl KB.rel (p_law_up_row a0 a1 a2) (m_law_up_row [.v a0, .v a1, .v a2]) := fn_of (π := [.v a0, .v a1, .v a2]) (n := 3) (sl := [.v a0, .v a1, .v a2]) (κ := KB) (pr_ret (pe_and (pe_call (rl4 hf_lrow) (pas_cons (ps_v (pe_var rfl)) (pas_cons (ps_v pe_c) (pas_cons (ps_v (pe_var rfl)) (pas_cons (ps_v (pe_var rfl)) pas_nil))))) (pe_call (rl1 pf_law_is_up) (pas_cons (ps_v (pe_var rfl)) pas_nil)))) (.cons (.v _) (.cons (.v _) (.cons (.v _) .nil)))
def p_law_some (a1 a2 : DL.D) : T DL.D := (blt KV bTuple (con (lvP (lcP tgV (fun k_2 => (bin KB dEq (call (ap1 p_draw) (con (T.ret a2) (T.ret []))) (T.ret ((.int 0) : DL.D)))) (fun k_2 => (T.ret k_2)) (T.bind (con (T.ret a1) (T.ret [])) rng1))) (T.ret [])))
theorem pf_law_some (a1 a2 : DL.D) : Rl KV.rel (p_law_some a1 a2) (m_law_some [.o .pool, .v a1, .v a2]) := fn_of (π := [.pool, .v a1, .v a2, .any]) (n := 4) (sl := [.o .pool, .v a1, .v a2]) (κ := KV) (pr_ret (pe_b (pa_cons (po_s (ps_of (pe_lc (pi_rng (pa_cons (po_s (ps_v (pe_var rfl))) pa_nil)) (pg_set rfl) (fun k_2 => (pt_of (pe_bin (po_s (ps_v (pe_callP rfl (rp1 pf_draw) (pas_cons (ps_v (pe_var rfl)) pas_nil)))) (po_s (ps_v pe_c))))) (fun k_2 => (ps_v (pe_var rfl))) (fun _ => rfl)))) pa_nil))) (.cons .pool (.cons (.v _) (.cons (.v _) (.cons .anyU .nil))))
def p_law_first (a0 : DL.D) : T DL.D := (thenR (S := Unit) (T.bind (items (T.ret a0)) fun ds => forB (S := Unit) (S' := Unit) tgV (fun s2 one_4 =>
      (iteP (bin KB dIsNot (bin KV dIx (T.ret one_4) (T.ret ((.int 1) : DL.D))) (T.ret (.none : DL.D)))
      (T.bind (T.ret one_4) fun x => T.ret (Ct.rt x : Ct Unit Unit DL.D))
      (T.ret (Ct.nx () : Ct Unit Unit DL.D)))) () ds) fun s5 =>
    (T.ret (.none : DL.D)))
theorem pf_law_first (a0 : DL.D) : Rl KV.rel (p_law_first a0) (m_law_first [.v a0]) := fn_of (π := [.v a0, .any]) (n := 2) (sl := [.v a0]) (κ := KV) (pr_seqB (po := fun (_ : Unit) => []) (pb_for (po := (fun (s2 : Unit) => [.v a0, .any])) () (pi_seq (ps_v (pe_var rfl))) (by exact (.same (.same .nil))) (fun s2 => (pg_set rfl)) (fun s2 one_4 => (pb_if (pt_of (pe_bin (po_s (ps_v (pe_bin (po_s (ps_v (pe_var rfl))) (po_s (ps_v pe_c))))) (po_s (ps_v pe_c)))) (pb_r (pr_ret (pe_var rfl))) (pb_nextE (s := ()) (by exact (.same (.any rfl .nil))))))) (fun s5 => (pr_ret pe_c))) (.cons (.v _) (.cons .anyU .nil))
def p_law_least (a0 : DL.D) : T DL.D := (iteP (bin KB dNe (T.ret a0) (lvP (lst (T.ret [])))) (blt KV bMinL (con (T.ret a0) (T.ret []))) (T.ret (.none : DL.D)))
theorem pf_law_least (a0 : DL.D) : Rl KV.rel (p_law_least a0) (m_law_least [.v a0]) := fn_of (π := [.v a0]) (n := 1) (sl := [.v a0]) (κ := KV) (pr_ret (pe_if (pt_of (pe_bin (po_s (ps_v (pe_var rfl))) (po_s (ps_of (pe_lst pas_nil))))) (pe_b (pa_cons (po_s (ps_v (pe_var rfl))) pa_nil)) pe_c)) (.cons (.v _) .nil)
def p_law_pick (a1 : DL.D) : T DL.D := (bin KV dIx (T.ret a1) (call (ap1 p_draw) (con (blt KV bLen (con (T.ret a1) (T.ret []))) (T.ret []))))
theorem pf_law_pick (a1 : DL.D) : Rl KV.rel (p_law_pick a1) (m_law_pick [.o .pool, .v a1]) := fn_of (π := [.pool, .v a1]) (n := 2) (sl := [.o .pool, .v a1]) (κ := KV) (pr_ret (pe_bin (po_s (ps_v (pe_var rfl))) (po_s (ps_v (pe_callP rfl (rp1 pf_draw) (pas_cons (ps_v (pe_b (pa_cons (po_s (ps_v (pe_var rfl))) pa_nil))) pas_nil)))))) (.cons .pool (.cons (.v _) .nil))

/-! ### readings -/
def firstO (xs : List DL.D) : DL.D := (xs.find? fun x => !isNone x).getD .none
theorem first_of_is (xs : List DL.D) : p_first_of (.list xs) = .ret (firstO xs) := by
  unfold p_first_of firstO
  simp only [PL.bin, PL.un, PL.call, PL.ap0, PL.ap1, PL.ap2, PL.ap3, PL.ap4, PL.ap5, PL.ap6, PL.con, PL.blt, PL.tup, PL.lst, PL.lcP, PL.items, itemsOf, PL.sl, PL.bvP, PL.lvP, PL.kvP, p_vb, asI_i, PL.tgV, PL.tgO, PL.tgC, PL.tgT, PL.andP, PL.orP, PL.notP, PL.iteP, PL.isi, PL.cmp2, PL.appP, PL.thenR, PL.thenB, bind_r, bind_s, wp_ret, bind_ite, kv_of, kb_of, kl_of, kk_of, kf_v, kf_l, kk_val, e_chk, each_nil, each_cons, forN_nil, forN_cons, forB_nil, forB_cons, List.append_nil, List.nil_append, List.cons_append, List.length_cons, List.length_nil, Bool.false_eq_true, if_true, if_false, Bool.not_true, Bool.not_false, Nat.zero_add, Nat.le_refl, Nat.zero_le, isi_none, isi_bool, isi_int, isi_str, isi_list, isi_tuple, isi_dict, dIs, dIsNot, isn_none, isn_int, isn_bool, isn_str, isn_tup, isn_lst, isn_dict, decide_eq_true_eq, Bool.not_eq_true, Nat.reduceLeDiff, Nat.reduceAdd, Nat.reduceSub, reduceIte, ite_self]
  induction xs with
  | nil => rfl
  | cons x xs ih =>
    rw [forB_cons, List.find?_cons]
    by_cases h : isNone x = true
    · simp only [PL.bin, PL.un, PL.call, PL.ap0, PL.ap1, PL.ap2, PL.ap3, PL.ap4, PL.ap5, PL.ap6, PL.con, PL.blt, PL.tup, PL.lst, PL.lcP, PL.items, itemsOf, PL.sl, PL.bvP, PL.lvP, PL.kvP, p_vb, asI_i, PL.tgV, PL.tgO, PL.tgC, PL.tgT, PL.andP, PL.orP, PL.notP, PL.iteP, PL.isi, PL.cmp2, PL.appP, PL.thenR, PL.thenB, bind_r, bind_s, wp_ret, bind_ite, kv_of, kb_of, kl_of, kk_of, kf_v, kf_l, kk_val, e_chk, each_nil, each_cons, forN_nil, forN_cons, forB_nil, forB_cons, List.append_nil, List.nil_append, List.cons_append, List.length_cons, List.length_nil, Bool.false_eq_true, if_true, if_false, Bool.not_true, Bool.not_false, Nat.zero_add, Nat.le_refl, Nat.zero_le, isi_none, isi_bool, isi_int, isi_str, isi_list, isi_tuple, isi_dict, dIs, dIsNot, isn_none, isn_int, isn_bool, isn_str, isn_tup, isn_lst, isn_dict, decide_eq_true_eq, Bool.not_eq_true, Nat.reduceLeDiff, Nat.reduceAdd, Nat.reduceSub, reduceIte, ite_self, h] at ih ⊢
      exact ih
    · rw [Bool.not_eq_true] at h
      simp only [PL.bin, PL.un, PL.call, PL.ap0, PL.ap1, PL.ap2, PL.ap3, PL.ap4, PL.ap5, PL.ap6, PL.con, PL.blt, PL.tup, PL.lst, PL.lcP, PL.items, itemsOf, PL.sl, PL.bvP, PL.lvP, PL.kvP, p_vb, asI_i, PL.tgV, PL.tgO, PL.tgC, PL.tgT, PL.andP, PL.orP, PL.notP, PL.iteP, PL.isi, PL.cmp2, PL.appP, PL.thenR, PL.thenB, bind_r, bind_s, wp_ret, bind_ite, kv_of, kb_of, kl_of, kk_of, kf_v, kf_l, kk_val, e_chk, each_nil, each_cons, forN_nil, forN_cons, forB_nil, forB_cons, List.append_nil, List.nil_append, List.cons_append, List.length_cons, List.length_nil, Bool.false_eq_true, if_true, if_false, Bool.not_true, Bool.not_false, Nat.zero_add, Nat.le_refl, Nat.zero_le, isi_none, isi_bool, isi_int, isi_str, isi_list, isi_tuple, isi_dict, dIs, dIsNot, isn_none, isn_int, isn_bool, isn_str, isn_tup, isn_lst, isn_dict, decide_eq_true_eq, Bool.not_eq_true, Nat.reduceLeDiff, Nat.reduceAdd, Nat.reduceSub, reduceIte, ite_self, h, Option.getD]
theorem fault_at_is (w p : DL.D) : p_fault_at w p = .ret (if isNone p = true then .none else .tuple [w, p]) := by
  cases p <;> simp only [p_fault_at, PL.bin, PL.un, PL.call, PL.ap0, PL.ap1, PL.ap2, PL.ap3, PL.ap4, PL.ap5, PL.ap6, PL.con, PL.blt, PL.tup, PL.lst, PL.lcP, PL.items, itemsOf, PL.sl, PL.bvP, PL.lvP, PL.kvP, p_vb, asI_i, PL.tgV, PL.tgO, PL.tgC, PL.tgT, PL.andP, PL.orP, PL.notP, PL.iteP, PL.isi, PL.cmp2, PL.appP, PL.thenR, PL.thenB, bind_r, bind_s, wp_ret, bind_ite, kv_of, kb_of, kl_of, kk_of, kf_v, kf_l, kk_val, e_chk, each_nil, each_cons, forN_nil, forN_cons, forB_nil, forB_cons, List.append_nil, List.nil_append, List.cons_append, List.length_cons, List.length_nil, Bool.false_eq_true, if_true, if_false, Bool.not_true, Bool.not_false, Nat.zero_add, Nat.le_refl, Nat.zero_le, isi_none, isi_bool, isi_int, isi_str, isi_list, isi_tuple, isi_dict, dIs, dIsNot, isn_none, isn_int, isn_bool, isn_str, isn_tup, isn_lst, isn_dict, decide_eq_true_eq, Bool.not_eq_true, Nat.reduceLeDiff, Nat.reduceAdd, Nat.reduceSub, reduceIte, ite_self]
def firstP : List (DL.D × DL.D) → DL.D
  | [] => .none
  | (w, p) :: r => if isNone p = true then firstP r else .tuple [w, p]
theorem law_first_is (xs : List (DL.D × DL.D)) : p_law_first (.list (xs.map fun z => .tuple [z.1, z.2])) = .ret (firstP xs) := by
  unfold p_law_first
  simp only [PL.bin, PL.un, PL.call, PL.ap0, PL.ap1, PL.ap2, PL.ap3, PL.ap4, PL.ap5, PL.ap6, PL.con, PL.blt, PL.tup, PL.lst, PL.lcP, PL.items, itemsOf, PL.sl, PL.bvP, PL.lvP, PL.kvP, p_vb, asI_i, PL.tgV, PL.tgO, PL.tgC, PL.tgT, PL.andP, PL.orP, PL.notP, PL.iteP, PL.isi, PL.cmp2, PL.appP, PL.thenR, PL.thenB, bind_r, bind_s, wp_ret, bind_ite, kv_of, kb_of, kl_of, kk_of, kf_v, kf_l, kk_val, e_chk, each_nil, each_cons, forN_nil, forN_cons, forB_nil, forB_cons, List.append_nil, List.nil_append, List.cons_append, List.length_cons, List.length_nil, Bool.false_eq_true, if_true, if_false, Bool.not_true, Bool.not_false, Nat.zero_add, Nat.le_refl, Nat.zero_le, isi_none, isi_bool, isi_int, isi_str, isi_list, isi_tuple, isi_dict, dIs, dIsNot, isn_none, isn_int, isn_bool, isn_str, isn_tup, isn_lst, isn_dict, decide_eq_true_eq, Bool.not_eq_true, Nat.reduceLeDiff, Nat.reduceAdd, Nat.reduceSub, reduceIte, ite_self]
  induction xs with
  | nil => rfl
  | cons x xs ih =>
    obtain ⟨w, p⟩ := x
    rw [List.map_cons, forB_cons, firstP]
    have e : dIx (.tuple [w, p]) (.int 1) = .ret (.v p) := dIx_tup (i := 1) rfl
    by_cases h : isNone p = true
    · simp only [PL.bin, PL.un, PL.call, PL.ap0, PL.ap1, PL.ap2, PL.ap3, PL.ap4, PL.ap5, PL.ap6, PL.con, PL.blt, PL.tup, PL.lst, PL.lcP, PL.items, itemsOf, PL.sl, PL.bvP, PL.lvP, PL.kvP, p_vb, asI_i, PL.tgV, PL.tgO, PL.tgC, PL.tgT, PL.andP, PL.orP, PL.notP, PL.iteP, PL.isi, PL.cmp2, PL.appP, PL.thenR, PL.thenB, bind_r, bind_s, wp_ret, bind_ite, kv_of, kb_of, kl_of, kk_of, kf_v, kf_l, kk_val, e_chk, each_nil, each_cons, forN_nil, forN_cons, forB_nil, forB_cons, List.append_nil, List.nil_append, List.cons_append, List.length_cons, List.length_nil, Bool.false_eq_true, if_true, if_false, Bool.not_true, Bool.not_false, Nat.zero_add, Nat.le_refl, Nat.zero_le, isi_none, isi_bool, isi_int, isi_str, isi_list, isi_tuple, isi_dict, dIs, dIsNot, isn_none, isn_int, isn_bool, isn_str, isn_tup, isn_lst, isn_dict, decide_eq_true_eq, Bool.not_eq_true, Nat.reduceLeDiff, Nat.reduceAdd, Nat.reduceSub, reduceIte, ite_self, h, e] at ih ⊢
      exact ih
    · rw [Bool.not_eq_true] at h
      simp only [PL.bin, PL.un, PL.call, PL.ap0, PL.ap1, PL.ap2, PL.ap3, PL.ap4, PL.ap5, PL.ap6, PL.con, PL.blt, PL.tup, PL.lst, PL.lcP, PL.items, itemsOf, PL.sl, PL.bvP, PL.lvP, PL.kvP, p_vb, asI_i, PL.tgV, PL.tgO, PL.tgC, PL.tgT, PL.andP, PL.orP, PL.notP, PL.iteP, PL.isi, PL.cmp2, PL.appP, PL.thenR, PL.thenB, bind_r, bind_s, wp_ret, bind_ite, kv_of, kb_of, kl_of, kk_of, kf_v, kf_l, kk_val, e_chk, each_nil, each_cons, forN_nil, forN_cons, forB_nil, forB_cons, List.append_nil, List.nil_append, List.cons_append, List.length_cons, List.length_nil, Bool.false_eq_true, if_true, if_false, Bool.not_true, Bool.not_false, Nat.zero_add, Nat.le_refl, Nat.zero_le, isi_none, isi_bool, isi_int, isi_str, isi_list, isi_tuple, isi_dict, dIs, dIsNot, isn_none, isn_int, isn_bool, isn_str, isn_tup, isn_lst, isn_dict, decide_eq_true_eq, Bool.not_eq_true, Nat.reduceLeDiff, Nat.reduceAdd, Nat.reduceSub, reduceIte, ite_self, h, e]
def leastD : List Int → DL.D
  | [] => .none
  | n :: ns => .int (minI n ns)
theorem ints_of (ns : List Int) : intsD (ns.map PyData.int) = some ns := by
  induction ns with
  | nil => rfl
  | cons n ns ih => rw [List.map_cons, intsD, ih]; rfl
theorem lay_ints (ns : List Int) : PyData.canLayAll0 (ns.map PyData.int) = true := by
  induction ns with
  | nil => rfl
  | cons n ns ih => rw [List.map_cons, PyData.canLayAll0, ih]; rfl
theorem ne_nil (ns : List Int) : dNe (.list (ns.map PyData.int)) (.list []) = .ret (.v (.bool (!ns.isEmpty))) := by
  have h1 : PyData.canLay0 (.list (ns.map PyData.int)) = true := by rw [PyData.canLay0, lay_ints]
  have h2 : PyData.canLay0 (.list []) = true := by rw [PyData.canLay0]; rfl
  have h3 : min (PyData.depth (.list (ns.map PyData.int))) (PyData.depth (.list [])) ≤ 100 := Nat.le_trans (Nat.min_le_right _ _) (by decide)
  show ofB ((if (PyData.canLay0 (.list (ns.map PyData.int)) && PyData.canLay0 (.list []) && decide (min (PyData.depth (.list (ns.map PyData.int))) (PyData.depth (.list [])) ≤ 100)) = true then some (PyData.eqv (.list (ns.map PyData.int)) (.list [])) else none).map (!·)) = _
  rw [h1, h2, decide_eq_true h3]
  cases ns <;> rfl
theorem least_is (ns : List Int) : p_law_least (.list (ns.map PyData.int)) = .ret (leastD ns) := by
  simp only [p_law_least, PL.bin, PL.un, PL.call, PL.ap0, PL.ap1, PL.ap2, PL.ap3, PL.ap4, PL.ap5, PL.ap6, PL.con, PL.blt, PL.tup, PL.lst, PL.lcP, PL.items, itemsOf, PL.sl, PL.bvP, PL.lvP, PL.kvP, p_vb, asI_i, PL.tgV, PL.tgO, PL.tgC, PL.tgT, PL.andP, PL.orP, PL.notP, PL.iteP, PL.isi, PL.cmp2, PL.appP, PL.thenR, PL.thenB, bind_r, bind_s, wp_ret, bind_ite, kv_of, kb_of, kl_of, kk_of, kf_v, kf_l, kk_val, e_chk, each_nil, each_cons, forN_nil, forN_cons, forB_nil, forB_cons, List.append_nil, List.nil_append, List.cons_append, List.length_cons, List.length_nil, Bool.false_eq_true, if_true, if_false, Bool.not_true, Bool.not_false, Nat.zero_add, Nat.le_refl, Nat.zero_le, isi_none, isi_bool, isi_int, isi_str, isi_list, isi_tuple, isi_dict, dIs, dIsNot, isn_none, isn_int, isn_bool, isn_str, isn_tup, isn_lst, isn_dict, decide_eq_true_eq, Bool.not_eq_true, Nat.reduceLeDiff, Nat.reduceAdd, Nat.reduceSub, reduceIte, ite_self, ne_nil]
  cases ns with
  | nil => rfl
  | cons n ns =>
    simp only [List.isEmpty, PL.bin, PL.un, PL.call, PL.ap0, PL.ap1, PL.ap2, PL.ap3, PL.ap4, PL.ap5, PL.ap6, PL.con, PL.blt, PL.tup, PL.lst, PL.lcP, PL.items, itemsOf, PL.sl, PL.bvP, PL.lvP, PL.kvP, p_vb, asI_i, PL.tgV, PL.tgO, PL.tgC, PL.tgT, PL.andP, PL.orP, PL.notP, PL.iteP, PL.isi, PL.cmp2, PL.appP, PL.thenR, PL.thenB, bind_r, bind_s, wp_ret, bind_ite, kv_of, kb_of, kl_of, kk_of, kf_v, kf_l, kk_val, e_chk, each_nil, each_cons, forN_nil, forN_cons, forB_nil, forB_cons, List.append_nil, List.nil_append, List.cons_append, List.length_cons, List.length_nil, Bool.false_eq_true, if_true, if_false, Bool.not_true, Bool.not_false, Nat.zero_add, Nat.le_refl, Nat.zero_le, isi_none, isi_bool, isi_int, isi_str, isi_list, isi_tuple, isi_dict, dIs, dIsNot, isn_none, isn_int, isn_bool, isn_str, isn_tup, isn_lst, isn_dict, decide_eq_true_eq, Bool.not_eq_true, Nat.reduceLeDiff, Nat.reduceAdd, Nat.reduceSub, reduceIte, ite_self]
    show ((match intsD ((n :: ns).map PyData.int) with | some (n :: ns) => T.ret (R.v (.int (minI n ns))) | _ => .stop)).bind KV.of = _
    rw [ints_of]; rfl
/-! ### draws, picks, words -/
theorem draw_wp {n : Int} {Q : DL.D → Prop} (h0 : 0 < n) (h1 : n ≤ 1000000000) (h : ∀ i : Int, 0 ≤ i → i < n → Q (.int i)) : (p_draw (.int n)).wp Q := by
  have e : p_draw (.int n) = .draw n fun i => .ret (.int i) := if_pos h1
  rw [e]
  exact ⟨h0, h⟩
theorem pick_int {i : Int} (ns : List Int) (h0 : 0 ≤ i) (h1 : i < (ns.length : Nat)) : ∃ k, k ∈ ns ∧ dIx (.tuple (ns.map PyData.int)) (.int i) = .ret (.v (.int k)) := by
  obtain ⟨x, e1, e2, e3⟩ := dIx_mem (xs := ns.map PyData.int) h0 (by rw [List.length_map]; exact h1)
  obtain ⟨k, hk, rfl⟩ := List.mem_map.mp e2
  exact ⟨k, hk, e3⟩
theorem named_iff {v : DL.D} {w : Str} {n : Nat} : named v w n = true ↔ ∃ r, v = .tuple (.str w :: r) ∧ r.length + 1 = n := by
  constructor
  · intro h
    unfold named at h
    split at h
    · rename_i s r
      rw [Bool.and_eq_true] at h
      have e := of_decide_eq_true h.2
      subst e
      exact ⟨r, rfl, of_decide_eq_true h.1⟩
    · cases h
  · rintro ⟨r, rfl, e⟩
    unfold named
    simp only [e, decide_true, Bool.and_self]
theorem bMax2 {i j : Int} : bMax [.int i, .int j] = .ret (.v (.int (if j > i then j else i))) := rfl
theorem bMin2 {i j : Int} : bMin [.int i, .int j] = .ret (.v (.int (if j < i then j else i))) := rfl
theorem bAbs1 {i : Int} : bAbs [.int i] = .ret (.v (.int (if i < 0 then -i else i))) := rfl
theorem bInt1 {i : Int} : bInt [.int i] = .ret (.v (.int i)) := rfl
theorem mulS {i j : Int} (h : i.natAbs < 2 ^ 64) : dMul (.int i) (.int j) = .ret (.v (.int (i * j))) := by
  show (if (small j || small i) = true then _ else _) = _
  rw [if_pos]
  rw [Bool.or_eq_true]
  exact .inr (decide_eq_true (by omega))
theorem mulR {i j : Int} (h : j.natAbs < 2 ^ 64) : dMul (.int i) (.int j) = .ret (.v (.int (i * j))) := by
  show (if (small j || small i) = true then _ else _) = _
  rw [if_pos]
  rw [Bool.or_eq_true]
  exact .inl (decide_eq_true (by omega))
end PL

namespace DL
open PySem PySem.Spec PyProof.Rows L2
/-! ### a table of what was found, written by a def that calls itself -/
/-- the keys are ints below a bound, each once -/
def Small (kvs : List (Key × V)) : Prop := (kvs.map (·.1)).Nodup ∧ ∀ p ∈ kvs, ∃ n : Nat, p.1 = .inl (n : Int) ∧ n < 100000
theorem nodup_le : ∀ (B : Nat) (l : List Nat), l.Nodup → (∀ x ∈ l, x < B) → l.length ≤ B
  | 0, [], _, _ => Nat.le_refl _
  | 0, x :: _, _, h => absurd (h x List.mem_cons_self) (Nat.not_lt_zero _)
  | B + 1, l, nd, h => by
    by_cases hB : B ∈ l
    · have h1 : (l.erase B).length ≤ B := nodup_le B _ (nd.erase B) fun x hx => by
        have := h x (List.mem_of_mem_erase hx)
        have ne : x ≠ B := (nd.mem_erase_iff.mp hx).1
        omega
      have := List.length_erase_of_mem hB
      omega
    · have := nodup_le B l nd fun x hx => by
        have := h x hx
        have ne : x ≠ B := fun z => hB (z ▸ hx)
        omega
      omega
theorem Small.len {kvs : List (Key × V)} (h : Small kvs) : kvs.length ≤ 100000 := by
  obtain ⟨nd, hk⟩ := h
  have : ((kvs.map (·.1)).map fun k => match k with | .inl i => i.toNat | .inr _ => 0).length ≤ 100000 := by
    refine nodup_le _ _ ?_ ?_
    · refine List.pairwise_map.mpr (List.Pairwise.imp_of_mem (fun {a b} ha hb ne => ?_) nd)
      obtain ⟨p, hp, rfl⟩ := List.mem_map.mp ha
      obtain ⟨q, hq, rfl⟩ := List.mem_map.mp hb
      obtain ⟨n, en, _⟩ := hk p hp
      obtain ⟨m, em, _⟩ := hk q hq
      rw [en, em] at ne ⊢
      intro z
      apply ne
      have z : (n : Int).toNat = (m : Int).toNat := z
      rw [Int.toNat_natCast, Int.toNat_natCast] at z
      rw [z]
    · intro x hx
      obtain ⟨k, hk', rfl⟩ := List.mem_map.mp hx
      obtain ⟨p, hp, rfl⟩ := List.mem_map.mp hk'
      obtain ⟨n, en, hn⟩ := hk p hp
      rw [en]
      show (n : Int).toNat < _
      rw [Int.toNat_natCast]; exact hn
  rwa [List.length_map, List.length_map] at this
/-- only what W tells -/
def memoInv (W : Nat → DL.D → Option Bool) (H : Hp) (a : Addr) : Prop := ∃ kvs, H a = some (.dK kvs) ∧ Small kvs ∧ ∀ p ∈ kvs, ∃ b n, p.2 = .bl b ∧ W n (keyD p.1) = some b
def memoObj (W : Nat → DL.D → Option Bool) : ShObj where
  inv := fun _ H a _ => memoInv W H a
  mono := fun ⟨kvs, e, r⟩ _ k => ⟨kvs, k _ e, r⟩
  there := fun ⟨_, e, _⟩ => ⟨_, e⟩
  back := fun _ q _ => q
structure MemoOk (W : Nat → DL.D → Option Bool) : Prop where
  co : ∀ {n m d b c}, W n d = some b → W m d = some c → b = c
  dom : ∀ {n d b}, W n d = some b → ∃ k : Nat, d = .int (k : Int) ∧ k < 100000
def sMemo (W : DL.D → Option Bool) (mE : M) : MS := fun (σ : Env) => match (σ[0]? : Option Sl), (σ[2]? : Option Sl) with
  | some (Sl.v d), some (Sl.o O.pool) => (match W d with
    | some b => (mE σ).bind fun p => (match p.1, p.2 with
      | .v (.bool c), [] => if c = b then .ret (.rt (.v (.bool b)), σ) else .stop
      | _, _ => .stop)
    | none => .stop)
  | _, _ => .stop
theorem T.wp_some {α : Type} {P : Prop} {t : DL.T α} (h : t.wp fun _ => P) : P := by
  induction t with
  | ret a => exact h
  | stop => exact h.elim
  | draw n k ih => exact ih 0 (h.2 0 (Int.le_refl _) h.1)
theorem valV_mem {κ : Type} [DecidableEq κ] {kvs : List (κ × V)} {k : κ} {v : V} (h : valV kvs k = some v) : (k, v) ∈ kvs := by
  unfold valV at h
  cases e : kvs.find? (fun p => decide (p.1 = k)) with
  | none => rw [e] at h; cases h
  | some p =>
    rw [e] at h; cases h
    have h1 := List.mem_of_find?_eq_some e
    have h2 := List.find?_some e
    rw [← of_decide_eq_true h2]; exact h1
theorem valV_none {κ : Type} [DecidableEq κ] {kvs : List (κ × V)} {k : κ} (h : valV kvs k = none) : ∀ p ∈ kvs, p.1 ≠ k := by
  unfold valV at h
  intro p hp z
  cases e : kvs.find? (fun p => decide (p.1 = k)) with
  | none => exact absurd (decide_eq_true z) (by simpa using List.find?_eq_none.mp e p hp)
  | some q => rw [e] at h; cases h
section
variable {W : Nat → DL.D → Option Bool}
theorem memo_put (W0 : MemoOk W) {kvs : List (Key × V)} {k : Key} {b : Bool} {n : Nat} (hs : Small kvs) (h : ∀ p ∈ kvs, ∃ b n, p.2 = .bl b ∧ W n (keyD p.1) = some b) (hk : W n (keyD k) = some b) :
    Small (putK kvs k (.bl b)) ∧ ∀ p ∈ putK kvs k (.bl b), ∃ b n, p.2 = .bl b ∧ W n (keyD p.1) = some b := by
  obtain ⟨kn, ek, hlt⟩ := W0.dom hk
  have ek : k = .inl (kn : Int) := by
    cases k with
    | inl i => injection ek with ek; rw [ek]
    | inr x => cases ek
  cases e : valV kvs k with
  | none =>
    rw [putK_new _ e]
    refine ⟨⟨?_, fun p hp => ?_⟩, fun p hp => ?_⟩
    · rw [List.map_append, List.map_singleton]
      refine List.nodup_append.mpr ⟨hs.1, List.nodup_cons.mpr ⟨List.not_mem_nil, List.nodup_nil⟩, fun a ha c hc => ?_⟩
      obtain ⟨p, hp, rfl⟩ := List.mem_map.mp ha
      rw [List.mem_singleton.mp hc]
      exact valV_none e p hp
    · rcases List.mem_append.mp hp with hp | hp
      · exact hs.2 p hp
      · rw [List.mem_singleton.mp hp]; exact ⟨kn, ek, hlt⟩
    · rcases List.mem_append.mp hp with hp | hp
      · exact h p hp
      · rw [List.mem_singleton.mp hp]; exact ⟨b, n, rfl, hk⟩
  | some v =>
    have hm := valV_mem e
    have any : (kvs.any fun kv => decide (kv.1 = k)) = true := List.any_eq_true.mpr ⟨_, hm, decide_eq_true rfl⟩
    have ep : putK kvs k (.bl b) = kvs.map fun kv => if kv.1 = k then (kv.1, .bl b) else kv := by unfold putK; rw [if_pos any]
    rw [ep]
    refine ⟨⟨?_, fun p hp => ?_⟩, fun p hp => ?_⟩
    · rw [List.map_map]
      rw [show ((fun p : Key × V => p.1) ∘ fun kv : Key × V => if kv.1 = k then (kv.1, V.bl b) else kv) = fun p => p.1 from funext fun p => by
        show (if p.1 = k then (p.1, V.bl b) else p).1 = p.1
        split <;> rfl]
      exact hs.1
    · obtain ⟨q, hq, rfl⟩ := List.mem_map.mp hp
      have : (if q.1 = k then (q.1, V.bl b) else q).1 = q.1 := by split <;> rfl
      rw [this]; exact hs.2 q hq
    · obtain ⟨q, hq, rfl⟩ := List.mem_map.mp hp
      by_cases z : q.1 = k
      · rw [if_pos z]; exact ⟨b, n, rfl, by rw [z]; exact hk⟩
      · rw [if_neg z]; exact h q hq
/-- the pool's own object, changed -/
theorem Hd.modP [ShObj] {K : PySem.W.Frag} {F H : Hp} {σ : Env} {σV : L2.St} {i : Nat} {a : Addr} (s : Hd K F H σV σ) (hi : σ[i]? = some (.o .pool)) (hV : σV[i]? = some (some (.ref a))) (o : HO)
    (ho : ∀ s, PoolS F H a s → PoolS F (L2.upd H a o) a s) : Hd K F (L2.upd H a o) σV σ ∧ G F σ σV H F σ σV (L2.upd H a o) := by
  obtain ⟨b, e1, e2, e3⟩ := s.own i _ hi
  rw [hV] at e1; cases e1
  have other : ∀ {j : Nat} {y : O} {b : Addr}, j ≠ i → σ[j]? = some (.o y) → σV[j]? = some (some (.ref b)) → b ≠ a := fun {j y b} hj e q z => s.dis j i y _ hj e hi (by rw [q, hV, z])
  refine ⟨⟨fun b u e => ?_, s.len, s.val, fun j y e => ?_, s.dis⟩, ⟨Same.refl _, fun _ _ _ _ => rfl, fun b u e n => ?_, fun j y b e q => .inr (own_no e q), fun j e => ⟨e, rfl, fun b s' q z => ?_⟩, fun b u e => ?_⟩⟩
  · rw [upd_ne (ne_of_none e e2)]; exact s.le _ _ e
  · by_cases hj : j = i
    · subst hj
      rw [hi] at e; cases e
      obtain ⟨s', e3⟩ := e3
      exact ⟨a, hV, e2, s', ho s' e3⟩
    · obtain ⟨b, q1, q2, q3⟩ := s.own j y e
      exact ⟨b, q1, q2, q3.mono (Same.refl _) fun o' e' => by rw [upd_ne (other hj e q1)]; exact e'⟩
  · rw [upd_ne fun z => n i _ hi (by rw [hV, z])]; exact e
  · by_cases hj : j = i
    · subst hj
      rw [hV] at q; cases q
      exact ho s' z
    · exact z.mono (Same.refl _) fun o' e' => by rw [upd_ne (other hj e q)]; exact e'
  · by_cases z : b = a
    · subst z; exact ⟨o, upd_same⟩
    · exact ⟨u, by rw [upd_ne z]; exact e⟩
theorem sMemo_ls {K : PySem.W.Frag} {D : Ends} {σV : L2.St} {H : Hp} {n : Nat} {mE : M} (W0 : MemoOk W) (h : @LS (memoObj W) K (sMemo (W n) mE) D σV H) :
    tSeq (tIfS (tB (tDNotIn (tVar 0) (tVar 2))) (sDPut (tVar 2) (tVar 0) (@LE (memoObj W) K mE)) tNext) (tRet (tDGet (tVar 2) (tVar 0))) D σV H := by
  letI : ShObj := memoObj W
  obtain ⟨F, σ, s, h⟩ := h
  unfold sMemo at h
  split at h
  · rename_i d hd hp
    split at h
    · rename_i b hW
      rw [T.wp_bind] at h
      obtain ⟨kn, ed, hlt⟩ := W0.dom hW
      subst ed
      obtain ⟨v, hv, hr⟩ := s.val 0 _ hd
      obtain ⟨a, hV, hF, _, kvs, ha, hs, hall⟩ := s.own 2 _ hp
      cases hr
      have ekd : keyD (.inl (kn : Int)) = (.int (kn : Int) : DL.D) := rfl
      refine ⟨_, hv, _, hV, a, valV kvs (.inl (kn : Int)), rfl, DGet.k (k := .inl (kn : Int)) ha, _, rfl, ?_⟩
      cases e : valV kvs (.inl (kn : Int)) with
      | some v =>
        show tNext _ _ _
        obtain ⟨c, m, e1, e2⟩ := hall _ (valV_mem e)
        obtain rfl : b = c := W0.co hW e2
        have e1 : v = V.bl b := e1
        subst e1
        refine ⟨_, hV, _, hv, a, .bl b, rfl, by rw [← e]; exact DGet.k (k := .inl (kn : Int)) ha, ?_⟩
        refine T.wp_some (T.wp_mono h fun p h => ?_)
        split at h
        · split at h
          · exact h σV F H s G.refl _ (.v (.bl b))
          · exact h.elim
        · exact h.elim
      | none =>
        show @LE (memoObj W) K mE _ _ _
        refine LE.then s (T.wp_mono h fun p h x F1 H1 s1 g1 r1 => ?_)
        split at h
        · rename_i c e1 e2
          split at h
          · rename_i ec
            subst ec
            rw [e2] at s1 g1
            rw [e1] at r1
            cases r1 with
            | v hx =>
              cases hx
              obtain ⟨a', hV', hF', _, kvs', ha', hs', hall'⟩ := s1.own 2 _ hp
              rw [hV] at hV'; cases hV'
              refine ⟨_, hV, _, hv, a, _, rfl, DPut.k (k := .inl (kn : Int)) (v := .bl c) ha' ?_, ?_⟩
              · have := hs'.len
                exact Nat.lt_of_le_of_lt this (by decide)
              have pn := memo_put W0 (k := .inl (kn : Int)) hs' hall' hW
              obtain ⟨s2, g2⟩ := s1.modP hp hV (.dK (putK kvs' (.inl (kn : Int)) (.bl c))) fun s' _ => ⟨_, upd_same, pn.1, pn.2⟩
              refine ⟨_, hV, _, hv, a, .bl c, rfl, ?_, ?_⟩
              · have : valV (putK kvs' (.inl (kn : Int)) (.bl c)) (.inl (kn : Int)) = some (.bl c) := by rw [valV_put, if_pos rfl]
                rw [← this]; exact DGet.k (k := .inl (kn : Int)) upd_same
              · exact h σV F1 _ s2 (g1.trans g2) _ (.v (.bl c))
          · exact h.elim
        · exact h.elim
    · exact h.elim
  · exact h.elim
theorem db_memo {X : Cx} {n : Nat} {mE : M} {e : Expr} {x y : Str} {p1 p2 p3 p4 p5 p6 p7 p8 p9 p10 p11 p12 : Pos} (W0 : MemoOk W) (hu : X.A.units + 1 < cLine) (he : @DE (memoObj W) mE X e)
    (hN : X.N[0]? = some x := by rfl) (hN2 : X.N[2]? = some y := by rfl) (hv : Vis X.env.scope x := by first | exact Or.inl rfl | exact Or.inr (Or.inl rfl) | exact Or.inr (Or.inr rfl)) (hv2 : Vis X.env.scope y := by first | exact Or.inl rfl | exact Or.inr (Or.inl rfl) | exact Or.inr (Or.inr rfl))
    (hd : (x == ("__debug__" : Str)) = false := by decide) (hd2 : (y == ("__debug__" : Str)) = false := by decide) (hcd : (x == ("__classdict__" : Str)) = false := by decide) (hcd2 : (y == ("__classdict__" : Str)) = false := by decide)
    (hs : swapsWith e (some (.Subscript (.Name y p4) (.Name x p5) p6)) p7.line X.env = pure false := by rfl) (hb : behindInMarks .NotIn (.Name y p2) = false := by rfl) :
    @DB (memoObj W) (sMemo (W n) mE) X [.If (.Compare (.Name x p1) [.NotIn] [.Name y p2] p3) [.Assign [.Subscript (.Name y p4) (.Name x p5) p6] e p7] [] p8, .Return (some (.Subscript (.Name y p9) (.Name x p10) p11)) p12] := by
  letI : ShObj := memoObj W
  have p0 : ∀ {q : Pos}, PE X (.Name x q) (tVar 0) := fun {q} => pe_var hN hv hd hcd
  have p2 : ∀ {q : Pos}, PE X (.Name y q) (tVar 2) := fun {q} => pe_var hN2 hv2 hd2 hcd2
  exact ⟨PSs.imp (pss_cons (ps_if (pt_cmp (pc_dnotin hu p0 p2) hb) (pss_one (ps_dput hu p2 p0 he.pe hs)) pss_nil) (pss_one (ps_ret (pe_dget hu p2 p0 (fun _ _ => rfl))))) fun _ _ _ h => sMemo_ls W0 h⟩
end
/-- the mirror of such a def -/
noncomputable def mMemo (W : Nat → DL.D → Option Bool) (mv : DL.D) (n : Nat) : List Sl → T R := fun sl => open Classical in match sl with
  | [.v p, .v m, .o .pool] => if m = mv then (match W n p with | some b => .ret (.v (.bool b)) | none => .stop) else .stop
  | _ => .stop
section
variable {P : Program} {w : World} {K : PySem.W.Frag} {mg : Str → Option Value} {base : Heap}
theorem Fn.imp [ShObj] {k n : Nat} {x : Str} {f g : List Sl → T R} (F : Fn P w K mg base k x n f) (h : ∀ sl Q, (g sl).wp Q → (f sl).wp Q) : Fn P w K mg base k x n g := by
  obtain ⟨a, fd, ps, F, r⟩ := F.ex
  exact ⟨a, fd, ps, F.imp fun vs H Q E ⟨hl, F0, sl, h1, h2, h3, h4⟩ => ⟨hl, F0, sl, h1, h2, h3, h _ _ h4⟩, r⟩
/-- such a def, called with a new table -/
def spM (K : PySem.W.Frag) (f : DL.D → DL.D → T R) : Sp := fun vs H Q _ => ∃ F v1 v2 p d1 d2, vs = [v1, v2, .ref p] ∧ Same F H ∧ Rep K F v1 d1 ∧ Rep K F v2 d2 ∧ F p = none ∧ H p = some (.dK []) ∧
  (f d1 d2).wp fun r => ∀ v F' H', Same F F' → Same F' H' → (∀ a o, H a = some o → a ≠ p → H' a = some o) → (∀ a o, H a = some o → F' a = F a) → (∃ b, r = .v (.bool b) ∧ v = .bl b) → Q v H'
structure FnM (P : Program) (w : World) (K : PySem.W.Frag) (mg : Str → Option Value) (base : Heap) (k : Nat) (x : Str) (f : DL.D → DL.D → T R) : Prop where
  ex : ∃ (a : Addr) (fd : FuncData) (ps : List Str), FnOk P w K mg base CX0 k a fd ps (spM K f) ∧ mg x = some (.ref a) ∧ PySem.W.keepIn K (.ref a) = true ∧ Binds K fd ps []
def atW (W : DL.D → Nat → DL.D → Option Bool) (n : Nat) : DL.D → DL.D → T R := fun d mv => match W mv n d with | some b => .ret (.v (.bool b)) | none => .stop
theorem fnM_of {k n : Nat} {x : Str} {W : DL.D → Nat → DL.D → Option Bool} {a : Addr} {fd : FuncData} {ps : List Str} (hl : ps.length = 3) (h : ∀ mv, FnOk P w K mg base CX0 k a fd ps (@spD (memoObj (W mv)) K 3 (mMemo (W mv) mv n))) (hm : mg x = some (.ref a)) (hk : PySem.W.keepIn K (.ref a) = true) (hb : Binds K fd ps []) :
    FnM P w K mg base k x (atW W n) := by
  refine ⟨a, fd, ps, ⟨fun vs H Q E ⟨_, _, _, _, _, _, e, _⟩ => by rw [e, hl]; rfl, fun A outer s H args us vs Q E hr he hbt hv h' => ?_⟩, hm, hk, hb⟩
  obtain ⟨F, v1, v2, p, d1, d2, rfl, hle, r1, r2, hF, hH, q⟩ := h'
  refine (h d2).run A outer s H args us _ Q E hr he hbt hv ?_
  letI : ShObj := memoObj (W d2)
  refine ⟨rfl, F, [.v d1, .v d2, .o .pool], hle, .val r1 (.val r2 (.pool (s := 0) hF ⟨[], hH, ⟨List.nodup_nil, fun _ z => nomatch z⟩, fun _ z => nomatch z⟩ .nil)), (show pools [Sl.v d1, Sl.v d2, Sl.o O.pool] ≤ 1 from Nat.le_refl _), ?_⟩
  unfold atW at q
  show (mMemo (W d2) d2 n [.v d1, .v d2, .o .pool]).wp _
  unfold mMemo
  simp only [if_true]
  cases e : W d2 n d1 with
  | none => rw [e] at q; exact q.elim
  | some b =>
    rw [e] at q
    intro v F' H' g rr
    refine q v F' H' g.ff g.fh (fun c o ec ne => g.fr c o ec fun i e1 e2 => ?_) g.nw ⟨b, rfl, ?_⟩
    · match i, e1, e2 with
      | 0, e1, _ => cases e1
      | 1, e1, _ => cases e1
      | 2, _, e2 => injection e2 with e2; injection e2 with e2; exact ne e2.symm
      | i + 3, e1, _ => cases e1
    · cases rr with
      | v h => cases h; rfl
/-- a call of it -/
def mCallN (f : DL.D → DL.D → T R) (ms : MA) : M := fun σ => (ms σ).bind fun p => (looks (frz σ p.2) p.1).bind fun ds => match ds with
  | [x, y] => (f x y).bind fun r => (match r with | .v (.bool b) => .ret (.v (.bool b), p.2 ++ slotsAll p.1) | _ => .stop)
  | _ => .stop
theorem mCallN_le [ShObj] {f : DL.D → DL.D → T R} {ms : MA} {σV : L2.St} {H : Hp} {Q : VK} (h : LE K (mCallN f ms) σV H Q) : LA K ms σV H fun vs H2 => ∀ p, H2 p = none → spM K f (vs ++ [.ref p]) (upd H2 p (.dK [])) Q E0 := by
  obtain ⟨F, σ, s, h⟩ := h
  unfold mCallN at h
  rw [T.wp_bind] at h
  refine ⟨F, σ, s, T.wp_mono h fun p h vs F1 H1 s1 g1 r1 q hq => ?_⟩
  rw [T.wp_bind] at h
  obtain ⟨ds, h, F2, w2, s2, r2⟩ := escs_reps r1 s1 h
  have g2 := g1.wid (l := slotsAll p.1) w2
  split at h
  · rename_i x y
    cases r2 with
    | cons a1 r2 =>
      cases r2 with
      | cons a2 r2 =>
        cases r2
        have hq2 := s2.le.free hq
        refine ⟨F2, _, _, q, x, y, rfl, fun b o e => ?_, a1, a2, hq2, upd_same, ?_⟩
        · rw [upd_ne (ne_of_none e hq2)]; exact s2.le _ _ e
        rw [T.wp_bind] at h
        refine T.wp_mono h fun r h v F' H' ff fh fr nw ⟨b, e1, e2⟩ => ?_
        subst e1; subst e2
        have gr : Grow F2 H1 F' H' := ⟨ff, fh, fun c o e => fr c o (by rw [upd_ne (ne_of_none e hq)]; exact e) (ne_of_none e hq), fun c o e => nw c o (by rw [upd_ne (ne_of_none e hq)]; exact e)⟩
        have h : ∀ v F' H', Hd K F' H' σV (frz σ (p.2 ++ slotsAll p.1)) → G F σ σV H F' (frz σ (p.2 ++ slotsAll p.1)) σV H' → RR K F' H' σV H v (.v (.bool b)) → Q v H' := h
        rw [frz_append] at h
        exact h _ F' H' (s2.grow gr) (g2.trans (G.same gr)) (.v (.bl b))
  · exact h.elim
end
theorem LE.mono [ShObj] {K : PySem.W.Frag} {m : M} {σV : L2.St} {H : Hp} {Q Q' : VK} (h : LE K m σV H Q) (i : ∀ v H, Q v H → Q' v H) : LE K m σV H Q' := by
  obtain ⟨F, σ, s, h⟩ := h
  exact ⟨F, σ, s, T.wp_mono h fun p h v F' H' s' g r => i _ _ (h v F' H' s' g r)⟩
section
variable {X : Cx} {e1 e2 : Expr} {m1 m2 : M} {x : Str} {pos p p2 : Pos}
theorem de_callN [ShObj] {k k' : Nat} {f : DL.D → DL.D → T R} (F : FnM X.prog X.w X.K X.mg X.base k x f) (hr : Room k' X.A) (hk : k ≤ k') (hg : Gl X x) (h1 : DE m1 X e1) (h2 : DE m2 X e2) (hdb : (x == ("__debug__" : Str)) = false := by decide)
    (he1 : starEach [e1, e2, .Dict [] [] p2] X.env = (false, eval e1 X.env) :: starEach [e2, .Dict [] [] p2] X.env := by rfl) (he2 : starEach [e2, .Dict [] [] p2] X.env = (false, eval e2 X.env) :: starEach [.Dict [] [] p2] X.env := by rfl)
    (he3 : starEach [.Dict [] [] p2] X.env = (false, eval (.Dict [] [] p2) X.env) :: starEach [] X.env := by rfl) (hpl : (backTo pos (starEach [e2, .Dict [] [] p2] X.env)).any (·.1) = false := by rfl) :
    DE (mCallN f (mCons m1 (mCons m2 mNil))) X (.Call (.Name x p) [e1, e2, .Dict [] [] p2] [] pos) := by
  obtain ⟨a, fd, ps, F, hm, hk', hb⟩ := F.ex
  refine ⟨PE.imp (pe_call F (hr.mono hk) hg hm hk' hb .nil pass0 (pa_cons h1.pe (pa_cons h2.pe (pa_cons pe_dnewK pa_nil he3) he2) he1) hdb he1 hpl) fun σV H Q h => ?_⟩
  refine LE.mono (mCons_la (mCallN_le h)) fun v H1 q => ?_
  refine LE.mono (mCons_la q) fun v2 H2 q => ?_
  exact mNil_la q
end
end DL

namespace DL
open PySem PySem.Spec PyProof.Rows L2
open Sc
/-! ### who wins -/
def winF (l : List (Int × Int)) : Nat → Int → Bool
  | 0, _ => false
  | n + 1, p => l.any fun m => decide (m.1 = p) && !winF l n m.2
def movOf : List DL.D → Option (List (Int × Int))
  | [] => some []
  | .tuple [.int a, .int b] :: r => (movOf r).map ((a, b) :: ·)
  | _ => none
def movD (m : Int × Int) : DL.D := .tuple [.int m.1, .int m.2]
def movOk (l : List (Int × Int)) : Bool := decide (l.length ≤ 100000) && l.all fun m => decide (0 ≤ m.2 ∧ m.2 < m.1)
def winW (mv : DL.D) (n : Nat) (d : DL.D) : Option Bool := match mv, d with
  | .tuple ds, .int i => if 0 ≤ i ∧ i < n ∧ i < 100000 then (match movOf ds with
    | some l => if movOk l = true then some (winF l n i) else none
    | none => none) else none
  | _, _ => none
theorem movOf_eq : ∀ {ds : List DL.D} {l : List (Int × Int)}, movOf ds = some l → ds = l.map movD
  | [], l, h => by cases h; rfl
  | d :: r, l, h => by
    unfold movOf at h
    split at h
    · rename_i e; cases e
    · rename_i a b r2 e
      injection e with e1 e3
      subst e1; subst e3
      cases e2 : movOf r with
      | none => rw [e2] at h; cases h
      | some l' =>
        rw [e2] at h
        cases h
        rw [movOf_eq e2]; rfl
    · cases h
theorem pos_any {α : Type} (l : List α) (P : α → Bool) (f : α → DL.D) : decide ((0 : Int) < (((l.filter P).map f).length : Int)) = l.any P := by
  rw [List.length_map]
  induction l with
  | nil => rfl
  | cons m l ih =>
    rw [List.filter_cons, List.any_cons]
    cases e : P m with
    | true => rw [if_pos rfl, Bool.true_or]; exact decide_eq_true (by rw [List.length_cons]; omega)
    | false => rw [if_neg (by decide), Bool.false_or]; exact ih
theorem movOf_map (l : List (Int × Int)) : movOf (l.map movD) = some l := by
  induction l with
  | nil => rfl
  | cons m l ih => show (movOf (l.map movD)).map _ = _; rw [ih]; rfl
theorem any_congr' {α : Type} {f g : α → Bool} : ∀ {l : List α}, (∀ x ∈ l, f x = g x) → l.any f = l.any g
  | [], _ => rfl
  | x :: l, h => by rw [List.any_cons, List.any_cons, h x List.mem_cons_self, any_congr' fun y hy => h y (List.mem_cons_of_mem _ hy)]
theorem winF_eq {l : List (Int × Int)} (h : ∀ m ∈ l, 0 ≤ m.2 ∧ m.2 < m.1) : ∀ (n m : Nat) (i : Int), 0 ≤ i → i < n → i < m → winF l n i = winF l m i
  | 0, _, i, h0, h1, _ => by omega
  | _ + 1, 0, i, h0, _, h1 => by omega
  | n + 1, m + 1, i, h0, h1, h2 => by
    refine any_congr' fun x hx => ?_
    by_cases e : x.1 = i
    · have := h x hx
      rw [winF_eq h n m x.2 this.1 (by omega) (by omega)]
    · rw [decide_eq_false e]; rfl
theorem movOk_mem {l : List (Int × Int)} (h : movOk l = true) : l.length ≤ 100000 ∧ ∀ m ∈ l, 0 ≤ m.2 ∧ m.2 < m.1 := by
  unfold movOk at h
  rw [Bool.and_eq_true] at h
  exact ⟨of_decide_eq_true h.1, fun m hm => of_decide_eq_true (List.all_eq_true.mp h.2 m hm)⟩
theorem winW_some {mv d : DL.D} {n : Nat} {b : Bool} (h : winW mv n d = some b) : ∃ (l : List (Int × Int)) (i : Int), mv = .tuple (l.map movD) ∧ d = .int i ∧ 0 ≤ i ∧ i < n ∧ i < 100000 ∧ movOk l = true ∧ b = winF l n i := by
  unfold winW at h
  split at h
  · rename_i ds i
    split at h
    · rename_i hc
      split at h
      · rename_i l e
        split at h
        · rename_i ok
          cases h
          exact ⟨l, i, by rw [movOf_eq e], rfl, hc.1, hc.2.1, hc.2.2, ok, rfl⟩
        · cases h
      · cases h
    · cases h
  · cases h
theorem winW_is {l : List (Int × Int)} {n : Nat} {i : Int} (h0 : 0 ≤ i) (h1 : i < n) (h2 : i < 100000) (ok : movOk l = true) : winW (.tuple (l.map movD)) n (.int i) = some (winF l n i) := by
  show (if 0 ≤ i ∧ i < n ∧ i < 100000 then _ else none) = _
  rw [if_pos ⟨h0, h1, h2⟩, movOf_map]
  show (if movOk l = true then some (winF l n i) else none) = _
  rw [if_pos ok]
theorem winOk (mv : DL.D) : MemoOk (winW mv) where
  co := fun {n m d b c} h1 h2 => by
    obtain ⟨l, i, rfl, rfl, a1, a2, a3, ok, rfl⟩ := winW_some h1
    obtain ⟨l', i', e, e2, b1, b2, b3, ok', rfl⟩ := winW_some h2
    cases e2
    have : l = l' := by
      have h := movOf_map l
      injection e with e
      rw [e, movOf_map] at h
      injection h with h; exact h.symm
    subst this
    exact winF_eq (movOk_mem ok).2 n m i a1 a2 b2
  dom := fun {n d b} h => by
    obtain ⟨l, i, rfl, rfl, a1, a2, a3, ok, rfl⟩ := winW_some h
    exact ⟨i.toNat, by rw [Int.toNat_of_nonneg a1], by omega⟩
theorem win_zero {mv : DL.D} {sl : List Sl} {Q : R → Prop} (h : (mMemo (winW mv) mv 0 sl).wp Q) : False := by
  unfold mMemo at h
  split at h
  · split at h
    · split at h
      · rename_i b e
        obtain ⟨l, i, _, _, a1, a2, _⟩ := winW_some e
        omega
      · exact h
    · exact h
  · exact h
def mWinsE (f : List Sl → T R) : M := (mBin dGt (mB bLen (mCons (mLc (iSeq (mVar 1)) (gTupM 2 (gsCons (gSet 3) (gsCons (gSet 4) gsNil))) (tAndM (tOf (mBin dEq (mVar 3) (mVar 0))) (tNotM (tOf (mCall f (mCons (mVar 4) (mCons (mVar 1) (mCons (mVar 2) mNil))))))) (mVar 4) [3, 4]) mNil)) (mC (.int 0)))
theorem winsE_is {l : List (Int × Int)} {n : Nat} {i : Int} (h0 : 0 ≤ i) (h1 : i < n + 1) (h2 : i < 100000) (ok : movOk l = true) :
    mWinsE (mMemo (winW (.tuple (l.map movD))) (.tuple (l.map movD)) n) [.v (.int i), .v (.tuple (l.map movD)), .o .pool, .u, .u] = .ret (.v (.bool (winF l (n + 1) i)), []) := by
  obtain ⟨hl, hm⟩ := movOk_mem ok
  have len : (l.map movD).length ≤ 100000 := by rw [List.length_map]; exact hl
  let c : DL.D → Bool := fun d => match d with | .tuple [.int a, .int b] => decide (a = i) && !winF l n b | _ => false
  let f : DL.D → DL.D := fun d => match d with | .tuple [.int a, .int b] => .int b | _ => .none
  have go := lc_pure (g := gTupM 2 (gsCons (gSet 3) (gsCons (gSet 4) gsNil))) (mt := tAndM (tOf (mBin dEq (mVar 3) (mVar 0))) (tNotM (tOf (mCall (mMemo (winW (.tuple (l.map movD))) (.tuple (l.map movD)) n) (mCons (mVar 4) (mCons (mVar 1) (mCons (mVar 2) mNil)))))))
    (m := mVar 4) (vs := [3, 4]) (σ := [.v (.int i), .v (.tuple (l.map movD)), .o .pool, .u, .u]) (c := c) (f := f) (l.map movD) fun d hd => by
      obtain ⟨m, hm', rfl⟩ := List.mem_map.mp hd
      have ok2 := hm m hm'
      refine ⟨[.v (.int i), .v (.tuple (l.map movD)), .o .pool, .v (.int m.1), .v (.int m.2)], rfl, ?_, rfl, fun _ => rfl⟩
      have e1 : c (movD m) = (decide (m.1 = i) && !winF l n m.2) := rfl
      rw [e1]
      by_cases e : m.1 = i
      · have e2 : mMemo (winW (.tuple (l.map movD))) (.tuple (l.map movD)) n [.v (.int m.2), .v (.tuple (l.map movD)), .o .pool] = .ret (.v (.bool (winF l n m.2))) := by
          unfold mMemo
          simp only [if_true, winW_is (l := l) (n := n) (i := m.2) ok2.1 (by omega) (by omega) ok]
        rw [decide_eq_true e, Bool.true_and]
        simp -implicitDefEqProofs only [e_mC, e_mVar, e_mBin, e_kB1, e_kB2, e_kB3, e_kB4, e_kP, e_mUn, e_kU1, e_kU2, e_mNil, e_mCons, e_kC1, e_kC2, e_mB, e_kA1, e_kA2, e_mTup, e_mLst, e_kT1, e_kL1, e_kJ, e_kJb, e_mIf, e_kI1, e_mAndV, e_kV1, e_kV2, e_mOrV, e_kO1, e_kO2, e_mNotV, e_kN1, e_tOf, e_kQ1, e_tAndM, e_tOrM, e_kAn, e_kOr, e_tNotM, e_tYes, e_toB, e_looks0, e_looks1, e_lookv, e_looko, e_looks, e_Od, e_argv, e_argo, e_args, e_argsOf0, e_argsOf1, e_one, e_mCall, e_kF1, e_kF2, e_kF3, e_at0, e_at1, e_at2, e_at3, e_at4, e_at5, e_at6, e_at7, e_mIsi, e_mSl, e_kS1, e_kS2, e_kS3, e_oNone, e_oSome, e_sNext, e_sSeq, e_kSeq0, e_kSeq1, e_sIf, e_kIf, e_sRet, e_kRet, e_retv, e_reto, e_rets, e_sSet, e_kSt, e_wrO, e_wru, e_wrv, e_wrl, e_storv, e_dic0, e_dic1, e_lookd0, e_storo, e_stors, e_sFor, e_kFor, e_for0, e_for1, e_kBd, e_kGo0, e_kGo1, e_iSeq, e_iRng, e_gSet, e_mLc, e_kLc1, e_kLc2, e_wipe0, e_wipe1, e_frz0, e_frz1, e_frz, e_fnM, e_kFn0, e_kFn1, e_chain, e_put, e_own, bind_ite, wp_ite, bind_draw, bind_r, wp_ret, wp_draw, e_chk, bind_s, pools, O.toD, List.append_nil, List.nil_append, List.cons_append, List.length_cons, List.length_nil, List.replicate, List.getElem?_cons_zero, List.getElem?_cons_succ, List.set, slotsAll, slotsOf, List.flatMap_cons, List.flatMap_nil, Bool.false_eq_true, if_true, if_false, Bool.not_true, Bool.not_false, Nat.zero_add, Nat.le_refl, Nat.zero_le, isi_none, isi_bool, isi_int, isi_str, isi_list, isi_tuple, isi_dict, dIs, dIsNot, isNone, decide_eq_true_eq, Bool.not_eq_true, Nat.reduceLeDiff, Nat.reduceAdd, Nat.reduceSub, itemsOf, dEq_int, decide_eq_true e, e2]
      · rw [decide_eq_false e, Bool.false_and]
        simp -implicitDefEqProofs only [e_mC, e_mVar, e_mBin, e_kB1, e_kB2, e_kB3, e_kB4, e_kP, e_mUn, e_kU1, e_kU2, e_mNil, e_mCons, e_kC1, e_kC2, e_mB, e_kA1, e_kA2, e_mTup, e_mLst, e_kT1, e_kL1, e_kJ, e_kJb, e_mIf, e_kI1, e_mAndV, e_kV1, e_kV2, e_mOrV, e_kO1, e_kO2, e_mNotV, e_kN1, e_tOf, e_kQ1, e_tAndM, e_tOrM, e_kAn, e_kOr, e_tNotM, e_tYes, e_toB, e_looks0, e_looks1, e_lookv, e_looko, e_looks, e_Od, e_argv, e_argo, e_args, e_argsOf0, e_argsOf1, e_one, e_mCall, e_kF1, e_kF2, e_kF3, e_at0, e_at1, e_at2, e_at3, e_at4, e_at5, e_at6, e_at7, e_mIsi, e_mSl, e_kS1, e_kS2, e_kS3, e_oNone, e_oSome, e_sNext, e_sSeq, e_kSeq0, e_kSeq1, e_sIf, e_kIf, e_sRet, e_kRet, e_retv, e_reto, e_rets, e_sSet, e_kSt, e_wrO, e_wru, e_wrv, e_wrl, e_storv, e_dic0, e_dic1, e_lookd0, e_storo, e_stors, e_sFor, e_kFor, e_for0, e_for1, e_kBd, e_kGo0, e_kGo1, e_iSeq, e_iRng, e_gSet, e_mLc, e_kLc1, e_kLc2, e_wipe0, e_wipe1, e_frz0, e_frz1, e_frz, e_fnM, e_kFn0, e_kFn1, e_chain, e_put, e_own, bind_ite, wp_ite, bind_draw, bind_r, wp_ret, wp_draw, e_chk, bind_s, pools, O.toD, List.append_nil, List.nil_append, List.cons_append, List.length_cons, List.length_nil, List.replicate, List.getElem?_cons_zero, List.getElem?_cons_succ, List.set, slotsAll, slotsOf, List.flatMap_cons, List.flatMap_nil, Bool.false_eq_true, if_true, if_false, Bool.not_true, Bool.not_false, Nat.zero_add, Nat.le_refl, Nat.zero_le, isi_none, isi_bool, isi_int, isi_str, isi_list, isi_tuple, isi_dict, dIs, dIsNot, isNone, decide_eq_true_eq, Bool.not_eq_true, Nat.reduceLeDiff, Nat.reduceAdd, Nat.reduceSub, itemsOf, dEq_int, decide_eq_false e]
  have cnt : ((l.map movD).filter c).map f = ((l.filter fun m => decide (m.1 = i) && !winF l n m.2).map fun m => (.int m.2 : DL.D)) := by
    rw [List.filter_map, List.map_map]; rfl
  have res : decide ((0 : Int) < (((l.filter fun m => decide (m.1 = i) && !winF l n m.2).map fun m => (.int m.2 : DL.D)).length : Int)) = winF l (n + 1) i := by
    show _ = l.any fun m => decide (m.1 = i) && !winF l n m.2
    exact pos_any _ _ _
  unfold mWinsE
  simp -implicitDefEqProofs only [e_mC, e_mVar, e_mBin, e_kB1, e_kB2, e_kB3, e_kB4, e_kP, e_mUn, e_kU1, e_kU2, e_mNil, e_mCons, e_kC1, e_kC2, e_mB, e_kA1, e_kA2, e_mTup, e_mLst, e_kT1, e_kL1, e_kJ, e_kJb, e_mIf, e_kI1, e_mAndV, e_kV1, e_kV2, e_mOrV, e_kO1, e_kO2, e_mNotV, e_kN1, e_tOf, e_kQ1, e_tAndM, e_tOrM, e_kAn, e_kOr, e_tNotM, e_tYes, e_toB, e_looks0, e_looks1, e_lookv, e_looko, e_looks, e_Od, e_argv, e_argo, e_args, e_argsOf0, e_argsOf1, e_one, e_mCall, e_kF1, e_kF2, e_kF3, e_at0, e_at1, e_at2, e_at3, e_at4, e_at5, e_at6, e_at7, e_mIsi, e_mSl, e_kS1, e_kS2, e_kS3, e_oNone, e_oSome, e_sNext, e_sSeq, e_kSeq0, e_kSeq1, e_sIf, e_kIf, e_sRet, e_kRet, e_retv, e_reto, e_rets, e_sSet, e_kSt, e_wrO, e_wru, e_wrv, e_wrl, e_storv, e_dic0, e_dic1, e_lookd0, e_storo, e_stors, e_sFor, e_kFor, e_for0, e_for1, e_kBd, e_kGo0, e_kGo1, e_iSeq, e_iRng, e_gSet, e_mLc, e_kLc1, e_kLc2, e_wipe0, e_wipe1, e_frz0, e_frz1, e_frz, e_fnM, e_kFn0, e_kFn1, e_chain, e_put, e_own, bind_ite, wp_ite, bind_draw, bind_r, wp_ret, wp_draw, e_chk, bind_s, pools, O.toD, List.append_nil, List.nil_append, List.cons_append, List.length_cons, List.length_nil, List.replicate, List.getElem?_cons_zero, List.getElem?_cons_succ, List.set, slotsAll, slotsOf, List.flatMap_cons, List.flatMap_nil, Bool.false_eq_true, if_true, if_false, Bool.not_true, Bool.not_false, Nat.zero_add, Nat.le_refl, Nat.zero_le, isi_none, isi_bool, isi_int, isi_str, isi_list, isi_tuple, isi_dict, dIs, dIsNot, isNone, decide_eq_true_eq, Bool.not_eq_true, Nat.reduceLeDiff, Nat.reduceAdd, Nat.reduceSub, itemsOf, go, cnt, bLen_list, dGt, dI, res, len, out, List.filter_nil]
theorem win_body {mv : DL.D} {n : Nat} {sl : List Sl} {Q : R → Prop} (h : (mMemo (winW mv) mv (n + 1) sl).wp Q) : (fnM 5 (sMemo (winW mv (n + 1)) (mWinsE (mMemo (winW mv) mv n))) sl).wp Q := by
  unfold mMemo at h
  split at h
  · split at h
    · rename_i p m e
      subst e
      split at h
      · rename_i b e
        obtain ⟨l, i, rfl, rfl, a1, a2, a3, ok, rfl⟩ := winW_some e
        have := winsE_is (l := l) (n := n) (i := i) a1 (by omega) a3 ok
        unfold fnM
        show ((sMemo _ _ [.v (.int i), .v (.tuple (l.map movD)), .o .pool, .u, .u]).bind _).wp Q
        unfold sMemo
        simp only [List.getElem?_cons_zero, List.getElem?_cons_succ, e, this, bind_r, if_true]
        exact h
      · exact h.elim
    · exact h.elim
  · exact h.elim
end DL

namespace PL
open PySem PySem.Spec PyProof.Rows L2 DL
def winP (f : DL.D → DL.D → T R) (ps : T (List DL.D)) : T Bool := ps.bind fun l => match l with
  | [x, y] => (f x y).bind fun r => (match r with | .v (.bool b) => .ret b | _ => .stop)
  | _ => .stop
theorem pe_win {π : List Pt} {ms : MA} {ps : T (List DL.D)} {f : DL.D → DL.D → T R} (h : PAs π ms ps) (hf : ∀ x y r, f x y = r → r = .stop ∨ ∃ b, r = .ret (.v (.bool b))) : PE π (mCallN f ms) KB (winP f ps) := fun σ hm =>
  (h σ hm).bind fun l p e => by
    rw [looks_of e.1.1 (hm.frz e.2), bind_r]
    split
    · rename_i x y
      rcases hf x y (f x y) rfl with e2 | ⟨b, e2⟩
      · (try dsimp only); rw [e2]; exact .stop
      · (try dsimp only); rw [e2]; exact .ret ⟨rfl, e.2.app e.1.2⟩
    · exact .stop
theorem at_win (n : Nat) : ∀ x y r, atW winW n x y = r → r = .stop ∨ ∃ b, r = .ret (.v (.bool b)) := fun x y r e => by
  unfold atW at e
  split at e
  · exact .inr ⟨_, e.symm⟩
  · exact .inl e.symm
theorem winP_is {l : List (Int × Int)} {i : Int} (h0 : 0 ≤ i) (h1 : i < 40) (ok : movOk l = true) : winP (atW winW 40) (T.ret [.int i, .tuple (l.map movD)]) = .ret (winF l 40 i) := by
  unfold winP atW
  simp only [bind_r, winW_is (l := l) (n := 40) (i := i) h0 h1 (by omega) ok]
end PL

namespace DL
open PySem PySem.Spec PyProof.Rows L2
/-! ### sorted(set(xs)), xs a list of tuples of ints -/
def intsT : DL.D → Option (List Int)
  | .tuple xs => intsD xs
  | _ => none
def rowsD : List DL.D → Option (List (List Int))
  | [] => some []
  | d :: r => match intsT d, rowsD r with
    | some a, some b => some (a :: b)
    | _, _ => none
def rowT (r : List Int) : DL.D := .tuple (r.map .int)
def dedup {α : Type} [DecidableEq α] : List α → List α
  | [] => []
  | x :: r => if x ∈ r then dedup r else x :: dedup r
def codeLe (a b : List Int) : Bool := decide (TS.code 1000 a ≤ TS.code 1000 b)
def ssR (rows : List (List Int)) : List (List Int) := (dedup rows).mergeSort codeLe
def rowOk (d : Nat) (r : List Int) : Bool := decide (r.length = d) && r.all fun i => decide (0 ≤ i ∧ i < 1000)
def ssOk (rows : List (List Int)) : Bool := decide (rows.length < 64) && match rows with | [] => true | r :: _ => decide (1 ≤ r.length) && rows.all (rowOk r.length)
def bSS (ds : List DL.D) : T R := match ds with
  | [.list xs] => (match rowsD xs with
    | some rows => if ssOk rows = true then .ret (.o (.lst ((ssR rows).map rowT))) else .stop
    | none => .stop)
  | _ => .stop
theorem mem_dedup {α : Type} [DecidableEq α] {x : α} : ∀ {l : List α}, x ∈ dedup l ↔ x ∈ l
  | [] => Iff.rfl
  | y :: l => by
    unfold dedup
    split
    · rename_i h
      rw [mem_dedup, List.mem_cons]
      exact ⟨.inr, fun z => z.elim (fun e => e ▸ h) id⟩
    · rw [List.mem_cons, List.mem_cons, mem_dedup]
theorem nodup_dedup {α : Type} [DecidableEq α] : ∀ (l : List α), (dedup l).Nodup
  | [] => List.nodup_nil
  | y :: l => by
    unfold dedup
    split
    · exact nodup_dedup l
    · rename_i h
      exact List.nodup_cons.mpr ⟨fun z => h (mem_dedup.mp z), nodup_dedup l⟩
theorem code_inj {B : Int} : ∀ {a b : List Int}, a.length = b.length → TS.Bd B a → TS.Bd B b → TS.code B a = TS.code B b → a = b
  | [], [], _, _, _, _ => rfl
  | x :: a, y :: b, hl, ha, hb, h => by
    have hl' : a.length = b.length := by simpa using hl
    rcases Int.lt_trichotomy x y with c | c | c
    · have := TS.code_lt hl' ha.tail hb.tail c; omega
    · subst c
      refine congrArg (x :: ·) (code_inj hl' ha.tail hb.tail ?_)
      have e1 : x * B ^ a.length + TS.code B a = x * B ^ b.length + TS.code B b := h
      rw [hl'] at e1; omega
    · have := TS.code_lt hl'.symm hb.tail ha.tail c; omega
theorem rowOk_iff {d : Nat} {r : List Int} (h : rowOk d r = true) : r.length = d ∧ TS.Bd 1000 r := by
  unfold rowOk at h
  rw [Bool.and_eq_true] at h
  exact ⟨of_decide_eq_true h.1, fun m hm => of_decide_eq_true (List.all_eq_true.mp h.2 m hm)⟩
theorem ssOk_all {rows : List (List Int)} (h : ssOk rows = true) : rows.length < 64 ∧ ∃ d, 1 ≤ d ∧ ∀ r ∈ rows, r.length = d ∧ TS.Bd 1000 r := by
  unfold ssOk at h
  rw [Bool.and_eq_true] at h
  refine ⟨of_decide_eq_true h.1, ?_⟩
  cases rows with
  | nil => exact ⟨1, Nat.le_refl _, fun _ z => nomatch z⟩
  | cons r rest =>
    have h2 : (decide (1 ≤ r.length) && (r :: rest).all (rowOk r.length)) = true := h.2
    rw [Bool.and_eq_true] at h2
    exact ⟨r.length, of_decide_eq_true h2.1, fun q hq => rowOk_iff (List.all_eq_true.mp h2.2 q hq)⟩
theorem codeLe_trans (a b c : List Int) (h1 : codeLe a b = true) (h2 : codeLe b c = true) : codeLe a c = true := decide_eq_true (Int.le_trans (of_decide_eq_true h1) (of_decide_eq_true h2))
theorem codeLe_total (a b : List Int) : (codeLe a b || codeLe b a) = true := by
  unfold codeLe
  rcases Int.le_total (TS.code 1000 a) (TS.code 1000 b) with h | h
  · rw [decide_eq_true h]; rfl
  · rw [decide_eq_true h, Bool.or_true]
theorem mem_ssR {rows : List (List Int)} {r : List Int} : r ∈ ssR rows ↔ r ∈ rows := by unfold ssR; rw [List.mem_mergeSort, mem_dedup]
theorem nodup_ssR (rows : List (List Int)) : (ssR rows).Nodup := (List.mergeSort_perm _ _).nodup_iff.mpr (nodup_dedup rows)
theorem sorted_ssR (rows : List (List Int)) : (ssR rows).Pairwise fun a b => codeLe a b = true := List.pairwise_mergeSort codeLe_trans codeLe_total _
/-- there is one such list -/
theorem ssR_unique {rows out : List (List Int)} {d : Nat} (hd : ∀ r ∈ rows, r.length = d ∧ TS.Bd 1000 r) (nd : out.Nodup) (mem : ∀ r, r ∈ out ↔ r ∈ rows) (pw : out.Pairwise fun a b => TS.code 1000 a ≤ TS.code 1000 b) : out = ssR rows := by
  refine List.Perm.eq_of_pairwise (le := fun a b => codeLe a b = true) (fun a b ha hb h1 h2 => ?_) (pw.imp fun h => decide_eq_true h) (sorted_ssR rows) ((List.perm_ext_iff_of_nodup nd (nodup_ssR rows)).mpr fun r => by rw [mem, mem_ssR])
  obtain ⟨l1, b1⟩ := hd a ((mem a).mp ha)
  obtain ⟨l2, b2⟩ := hd b (mem_ssR.mp hb)
  exact code_inj (l1.trans l2.symm) b1 b2 (Int.le_antisymm (of_decide_eq_true h1) (of_decide_eq_true h2))
section
variable {K : PySem.W.Frag} {F F' H H' : Hp}
theorem reps_ints : ∀ {xs : List V} {ds : List DL.D} {l : List Int}, Reps K F xs ds → intsD ds = some l → xs = l.map V.int
  | _, _, l, .nil, e => by cases e; rfl
  | _, _, l, .cons (d := d) (ds := ds) h r, e => by
    cases d with
    | int i =>
      rw [intsD] at e
      cases e2 : intsD ds with
      | none => rw [e2] at e; cases e
      | some l' =>
        rw [e2] at e; cases e
        rw [reps_ints r e2]
        cases h; rfl
    | _ => cases e
/-- the rows of a list of tuples, as addresses -/
theorem reps_rows : ∀ {xs : List V} {ds : List DL.D} {rows : List (List Int)}, Reps K F xs ds → rowsD ds = some rows → ∃ ks : List (Addr × List Int), xs = ks.map (fun p => V.ref p.1) ∧ ks.map (·.2) = rows ∧ ∀ p ∈ ks, SqT K F p.1 (p.2.map V.int)
  | _, _, rows, .nil, e => by cases e; exact ⟨[], rfl, rfl, fun _ z => nomatch z⟩
  | _, _, rows, .cons (d := d) (ds := ds) h r, e => by
    rw [rowsD] at e
    split at e
    · rename_i a b e1 e2
      cases e
      obtain ⟨ks, h1, h2, h3⟩ := reps_rows r e2
      cases h with
      | tup hs hr =>
        rename_i p xs2 ds2
        have ex := reps_ints hr e1
        subst ex
        refine ⟨(p, a) :: ks, by rw [h1]; rfl, by rw [List.map_cons, h2], fun q hq => ?_⟩
        rcases List.mem_cons.mp hq with rfl | hq
        · exact hs
        · exact h3 q hq
      | non => cases e1
      | bl _ => cases e1
      | int _ => cases e1
      | str _ => cases e1
      | lst _ _ => cases e1
      | dic _ _ => cases e1
    · cases e
theorem reps_int (l : List Int) : Reps K F (l.map V.int) (l.map .int) := by
  induction l with
  | nil => exact .nil
  | cons i l ih => exact .cons (.int i) ih
theorem rows_reps : ∀ {ks : List (Addr × List Int)}, (∀ p ∈ ks, SqT K F p.1 (p.2.map V.int)) → Reps K F (ks.map fun p => V.ref p.1) ((ks.map (·.2)).map rowT)
  | [], _ => .nil
  | p :: ks, h => .cons (.tup (h p List.mem_cons_self) (reps_int p.2)) (rows_reps fun q hq => h q (List.mem_cons_of_mem _ hq))
end
theorem ss_rule {K : PySem.W.Frag} {P : Program} {w : World} {H : Hp} {v : V} {Q : VK} (h : LRn K bSS [v] H Q) : rSetOfT K P w [v] H fun x H1 => rSortedT K P w [x] H1 Q := by
  obtain ⟨F, ds, hle, hv, q⟩ := h
  unfold bSS at q
  split at q
  · rename_i xs
    obtain ⟨x, ex, vw⟩ := hv.one
    cases ex
    obtain ⟨l, ys, rfl, h1, r1⟩ := vw.list hle
    split at q
    · rename_i rows e
      split at q
      · rename_i ok
        obtain ⟨hn, d, hd, hall⟩ := ssOk_all ok
        obtain ⟨ks, rfl, e2, hk⟩ := reps_rows r1 e
        have hkl : ks.length < 64 := by rw [← e2, List.length_map] at hn; exact hn
        refine ⟨l, ks, rfl, .inl (.inl h1), fun p hp => seqT_of hle (hk p hp), hkl, fun a L ha hL hall2 => ?_⟩
        have s1 : Same H (upd H a (SetTO P w a L)) := same_new ha
        refine ⟨a, L, d, 1000, rfl, upd_same, fun p hp => seqT_of (hle.trans s1) (hk p (hL p hp)), hd, fun p hp => hall p.2 (by rw [← e2]; exact List.mem_map.mpr ⟨p, hL p hp, rfl⟩), fun L' p pm nd hl pw hp => ?_⟩
        have eL : L'.map (·.2) = ssR rows := by
          refine ssR_unique hall nd (fun r => ?_) (List.pairwise_map.mpr pw)
          rw [← e2]
          constructor
          · intro hr
            obtain ⟨q, hq, rfl⟩ := List.mem_map.mp hr
            exact List.mem_map.mpr ⟨q, hL q (pm.mem_iff.mp hq), rfl⟩
          · intro hr
            obtain ⟨q, hq, rfl⟩ := List.mem_map.mp hr
            obtain ⟨q', hq', e3⟩ := List.mem_map.mp (hall2 q hq)
            exact List.mem_map.mpr ⟨q', pm.mem_iff.mpr hq', e3⟩
        have hp0 : H p = none := by
          by_cases z : p = a
          · subst z; rw [upd_same] at hp; cases hp
          · rwa [upd_ne z] at hp
        have gr : Grow F H F (upd (upd H a (SetTO P w a L)) p (.lst (L'.map fun q => V.ref q.1))) := (Grow.newO hle ha).trans (Grow.newO (hle.trans s1) hp)
        refine q (.ref p) F _ gr (.o (by intro z; cases z) (hle.free hp0) hp0 ⟨_, upd_same, ?_⟩)
        rw [← eL]
        exact rows_reps fun q hq => hk q (hL q (pm.mem_iff.mp hq))
      · exact q.elim
    · exact q.elim
  · exact q.elim
section
variable {X : Cx} {e : Expr} {m : M} {pos p p2 q : Pos}
theorem de_ss (hc : X.calm = true) (hu : X.A.units + 64 < cLine) (hg : Gl X "sorted") (hm : X.mg "sorted" = none) (hg2 : Gl X "set") (hm2 : X.mg "set" = none) (he : DE m X e)
    (n1 : starEach [e] X.env = (false, eval e X.env) :: starEach [] X.env := by rfl) (n2 : starEach [.Call (.Name "set" p2) [e] [] q] X.env = (false, eval (.Call (.Name "set" p2) [e] [] q) X.env) :: starEach [] X.env := by rfl) (hpl : (backTo pos (starEach [] X.env)).any (·.1) = false := by rfl) (hpl2 : (backTo q (starEach [] X.env)).any (·.1) = false := by rfl) :
    DE (mB bSS (mCons m mNil)) X (.Call (.Name "sorted" p) [.Call (.Name "set" p2) [e] [] q] [] pos) :=
  ⟨PE.imp (pe_callB (cr_sortedT hc) hg hm (by decide +kernel) (pa_cons (pe_callTy (cr_setOfT hc hu) hg2 hm2 (by decide +kernel) (pa_cons he.pe pa_nil n1) (by decide) (by decide) n1 hpl2) pa_nil n2) (by decide) (by decide) n2 hpl) fun σV H Q h => by
    have h := mB_le h
    obtain ⟨F, σ, s, h⟩ := h
    have h' : LA X.K (mCons m mNil) σV H fun vs H1 => LRn X.K bSS vs H1 Q := ⟨F, σ, s, h⟩
    exact LE.mono (mCons_la h') fun v H1 q => ss_rule (mNil_la q)⟩
end
end DL


namespace K31
open PySem PySem.Spec PyProof.Rows L2 DL DL.Sc
/-! ### the text -/
def topS (i : Nat) : Stmt := PySem.Challenge.pw_everyreason_k31_whole_games.main.body.getD i (.Pass ⟨0, 0, 0, 0⟩)
abbrev s_is_whole : Stmt := topS 2
theorem sc_is_whole : FnScope ["value"] ["value"] (defScope s_is_whole) := ⟨rfl, rfl, rfl, by decide +kernel, rfl, by decide +kernel, by decide +kernel⟩
abbrev s_is_from : Stmt := topS 3
theorem sc_is_from : FnScope ["value", "low", "high"] ["value", "low", "high"] (defScope s_is_from) := ⟨rfl, rfl, rfl, by decide +kernel, rfl, by decide +kernel, by decide +kernel⟩
abbrev s_is_row : Stmt := topS 4
theorem sc_is_row : FnScope ["value", "many", "low", "high", "item"] ["value", "many", "low", "high"] (defScope s_is_row) := ⟨rfl, rfl, rfl, by decide +kernel, rfl, by decide +kernel, by decide +kernel⟩
abbrev s_is_some_row : Stmt := topS 5
theorem sc_is_some_row : FnScope ["value", "low", "high", "item"] ["value", "low", "high"] (defScope s_is_some_row) := ⟨rfl, rfl, rfl, by decide +kernel, rfl, by decide +kernel, by decide +kernel⟩
abbrev s_rises : Stmt := topS 6
theorem sc_rises : FnScope ["items", "k"] ["items"] (defScope s_rises) := ⟨rfl, rfl, rfl, by decide +kernel, rfl, by decide +kernel, by decide +kernel⟩
abbrev s_is_rising_row : Stmt := topS 7
theorem sc_is_rising_row : FnScope ["value", "low", "high"] ["value", "low", "high"] (defScope s_is_rising_row) := ⟨rfl, rfl, rfl, by decide +kernel, rfl, by decide +kernel, by decide +kernel⟩
abbrev s_is_named : Stmt := topS 8
theorem sc_is_named : FnScope ["value", "word", "many"] ["value", "word", "many"] (defScope s_is_named) := ⟨rfl, rfl, rfl, by decide +kernel, rfl, by decide +kernel, by decide +kernel⟩
abbrev s_are_pairs : Stmt := topS 9
theorem sc_are_pairs : FnScope ["value", "lefts", "rights", "pair"] ["value", "lefts", "rights"] (defScope s_are_pairs) := ⟨rfl, rfl, rfl, by decide +kernel, rfl, by decide +kernel, by decide +kernel⟩
abbrev s_first_true : Stmt := topS 10
theorem sc_first_true : FnScope ["flags", "k"] ["flags"] (defScope s_first_true) := ⟨rfl, rfl, rfl, by decide +kernel, rfl, by decide +kernel, by decide +kernel⟩
abbrev s_first_of : Stmt := topS 11
theorem sc_first_of : FnScope ["faults", "fault"] ["faults"] (defScope s_first_of) := ⟨rfl, rfl, rfl, by decide +kernel, rfl, by decide +kernel, by decide +kernel⟩
abbrev s_fault_at : Stmt := topS 12
theorem sc_fault_at : FnScope ["word", "place"] ["word", "place"] (defScope s_fault_at) := ⟨rfl, rfl, rfl, by decide +kernel, rfl, by decide +kernel, by decide +kernel⟩
abbrev s_is_question : Stmt := topS 16
theorem sc_is_question : FnScope ["value", "a", "b"] ["value"] (defScope s_is_question) := ⟨rfl, rfl, rfl, by decide +kernel, rfl, by decide +kernel, by decide +kernel⟩
abbrev s_lost_positions : Stmt := topS 17
theorem sc_lost_positions : FnScope ["question", "found", "position", "a", "b"] ["question"] (defScope s_lost_positions) := ⟨rfl, rfl, rfl, by decide +kernel, rfl, by decide +kernel, by decide +kernel⟩
abbrev s_paper : Stmt := topS 18
theorem sc_paper : FnScope ["question", "found"] ["question"] (defScope s_paper) := ⟨rfl, rfl, rfl, by decide +kernel, rfl, by decide +kernel, by decide +kernel⟩
abbrev s_holds : Stmt := topS 19
theorem sc_holds : FnScope ["question"] ["question"] (defScope s_holds) := ⟨rfl, rfl, rfl, by decide +kernel, rfl, by decide +kernel, by decide +kernel⟩
abbrev s_leads_into : Stmt := topS 20
theorem sc_leads_into : FnScope ["question", "positions", "position", "a", "b"] ["question", "positions", "position"] (defScope s_leads_into) := ⟨rfl, rfl, rfl, by decide +kernel, rfl, by decide +kernel, by decide +kernel⟩
abbrev s_set_fault : Stmt := topS 21
theorem sc_set_fault : FnScope ["question", "positions", "is_lost", "every", "inner", "k", "outer", "start"] ["question", "positions", "is_lost"] (defScope s_set_fault) := ⟨rfl, rfl, rfl, by decide +kernel, rfl, by decide +kernel, by decide +kernel⟩
abbrev s_fault : Stmt := topS 22
theorem sc_fault : FnScope ["question", "value"] ["question", "value"] (defScope s_fault) := ⟨rfl, rfl, rfl, by decide +kernel, rfl, by decide +kernel, by decide +kernel⟩
abbrev s_law_is_integer : Stmt := topS 24
theorem sc_law_is_integer : FnScope ["actual"] ["actual"] (defScope s_law_is_integer) := ⟨rfl, rfl, rfl, by decide +kernel, rfl, by decide +kernel, by decide +kernel⟩
abbrev s_law_same : Stmt := topS 25
theorem sc_law_same : FnScope ["actual", "due", "k"] ["actual", "due"] (defScope s_law_same) := ⟨rfl, rfl, rfl, by decide +kernel, rfl, by decide +kernel, by decide +kernel⟩
abbrev s_law_pool : Stmt := topS 26
theorem sc_law_pool : FnScope ["script", "salt", "cell"] ["script"] (defScope s_law_pool) := ⟨rfl, rfl, rfl, by decide +kernel, rfl, by decide +kernel, by decide +kernel⟩
abbrev s_law_spread : Stmt := topS 27
theorem sc_law_spread : FnScope ["cell", "mixed", "total", "k"] ["cell"] (defScope s_law_spread) := ⟨rfl, rfl, rfl, by decide +kernel, rfl, by decide +kernel, by decide +kernel⟩
abbrev s_law_draw : Stmt := topS 28
theorem sc_law_draw : FnScope ["pool", "many", "cell", "mixed", "value"] ["pool", "many"] (defScope s_law_draw) := ⟨rfl, rfl, rfl, by decide +kernel, rfl, by decide +kernel, by decide +kernel⟩
abbrev s_law_bent : Stmt := topS 29
theorem sc_law_bent : FnScope ["pool", "value", "at", "turn", "other", "items"] ["pool", "value"] (defScope s_law_bent) := ⟨rfl, rfl, rfl, by decide +kernel, rfl, by decide +kernel, by decide +kernel⟩
abbrev s_law_booled : Stmt := topS 30
theorem sc_law_booled : FnScope ["value", "one"] ["value"] (defScope s_law_booled) := ⟨rfl, rfl, rfl, by decide +kernel, rfl, by decide +kernel, by decide +kernel⟩
abbrev s_law_listed : Stmt := topS 31
theorem sc_law_listed : FnScope ["value", "deep", "one"] ["value", "deep"] (defScope s_law_listed) := ⟨rfl, rfl, rfl, by decide +kernel, rfl, by decide +kernel, by decide +kernel⟩
abbrev s_law_odd_values : Stmt := topS 32
theorem sc_law_odd_values : FnScope ["deep", "k"] [] (defScope s_law_odd_values) := ⟨rfl, rfl, rfl, by decide +kernel, rfl, by decide +kernel, by decide +kernel⟩
abbrev s_law_is_up : Stmt := topS 33
theorem sc_law_is_up : FnScope ["items", "k"] ["items"] (defScope s_law_is_up) := ⟨rfl, rfl, rfl, by decide +kernel, rfl, by decide +kernel, by decide +kernel⟩
abbrev s_law_is_row : Stmt := topS 34
theorem sc_law_is_row : FnScope ["value", "many", "low", "high", "one"] ["value", "many", "low", "high"] (defScope s_law_is_row) := ⟨rfl, rfl, rfl, by decide +kernel, rfl, by decide +kernel, by decide +kernel⟩
abbrev s_law_is_number : Stmt := topS 35
theorem sc_law_is_number : FnScope ["value", "low", "high"] ["value", "low", "high"] (defScope s_law_is_number) := ⟨rfl, rfl, rfl, by decide +kernel, rfl, by decide +kernel, by decide +kernel⟩
abbrev s_law_up_row : Stmt := topS 36
theorem sc_law_up_row : FnScope ["value", "low", "high"] ["value", "low", "high"] (defScope s_law_up_row) := ⟨rfl, rfl, rfl, by decide +kernel, rfl, by decide +kernel, by decide +kernel⟩
abbrev s_law_word : Stmt := topS 37
theorem sc_law_word : FnScope ["value", "word", "many"] ["value", "word", "many"] (defScope s_law_word) := ⟨rfl, rfl, rfl, by decide +kernel, rfl, by decide +kernel, by decide +kernel⟩
abbrev s_law_pair_rows : Stmt := topS 38
theorem sc_law_pair_rows : FnScope ["value", "lefts", "rights", "one"] ["value", "lefts", "rights"] (defScope s_law_pair_rows) := ⟨rfl, rfl, rfl, by decide +kernel, rfl, by decide +kernel, by decide +kernel⟩
abbrev s_law_first : Stmt := topS 39
theorem sc_law_first : FnScope ["faults", "one"] ["faults"] (defScope s_law_first) := ⟨rfl, rfl, rfl, by decide +kernel, rfl, by decide +kernel, by decide +kernel⟩
abbrev s_law_least : Stmt := topS 40
theorem sc_law_least : FnScope ["items"] ["items"] (defScope s_law_least) := ⟨rfl, rfl, rfl, by decide +kernel, rfl, by decide +kernel, by decide +kernel⟩
abbrev s_law_some : Stmt := topS 41
theorem sc_law_some : FnScope ["pool", "many", "turn", "k"] ["pool", "many", "turn"] (defScope s_law_some) := ⟨rfl, rfl, rfl, by decide +kernel, rfl, by decide +kernel, by decide +kernel⟩
abbrev s_law_is_games : Stmt := topS 42
theorem sc_law_is_games : FnScope ["value", "one"] ["value"] (defScope s_law_is_games) := ⟨rfl, rfl, rfl, by decide +kernel, rfl, by decide +kernel, by decide +kernel⟩
abbrev s_law_q_games : Stmt := topS 43
theorem sc_law_q_games : FnScope ["pool", "many", "moves", "k", "a"] ["pool"] (defScope s_law_q_games) := ⟨rfl, rfl, rfl, by decide +kernel, rfl, by decide +kernel, by decide +kernel⟩
abbrev s_law_wins : Stmt := topS 44
theorem sc_law_wins : FnScope ["position", "moves", "known", "a", "b"] ["position", "moves", "known"] (defScope s_law_wins) := ⟨rfl, rfl, rfl, by decide +kernel, rfl, by decide +kernel, by decide +kernel⟩
abbrev s_law_yes_games : Stmt := topS 45
theorem sc_law_yes_games : FnScope ["q"] ["q"] (defScope s_law_yes_games) := ⟨rfl, rfl, rfl, by decide +kernel, rfl, by decide +kernel, by decide +kernel⟩
abbrev s_law_lost_faults : Stmt := topS 46
theorem sc_law_lost_faults : FnScope ["every", "row", "nexts", "leads", "one", "k", "inner", "outer"] ["every", "row", "nexts"] (defScope s_law_lost_faults) := ⟨rfl, rfl, rfl, by decide +kernel, rfl, by decide +kernel, by decide +kernel⟩
abbrev s_law_f_games : Stmt := topS 47
theorem sc_law_f_games : FnScope ["q", "value", "every", "nexts", "a", "b", "k", "found"] ["q", "value"] (defScope s_law_f_games) := ⟨rfl, rfl, rfl, by decide +kernel, rfl, by decide +kernel, by decide +kernel⟩
abbrev s_law : Stmt := topS 48
theorem sc_law : FnScope ["script", "pool", "turn", "q", "yes", "told", "other", "tried", "k", "value", "shown"] ["script"] (defScope s_law) := ⟨rfl, rfl, rfl, by decide +kernel, rfl, by decide +kernel, by decide +kernel⟩
/-! ### what the top leaves -/
structure Tx (K : PySem.W.Frag) (mg : Str → Option Value) : Prop where
  d_is_whole : Def K mg "is_whole" "is_whole" s_is_whole ["value"]
  d_is_from : Def K mg "is_from" "is_from" s_is_from ["value", "low", "high"]
  d_is_row : Def K mg "is_row" "is_row" s_is_row ["value", "many", "low", "high"]
  d_is_some_row : Def K mg "is_some_row" "is_some_row" s_is_some_row ["value", "low", "high"]
  d_rises : Def K mg "rises" "rises" s_rises ["items"]
  d_is_rising_row : Def K mg "is_rising_row" "is_rising_row" s_is_rising_row ["value", "low", "high"]
  d_is_named : Def K mg "is_named" "is_named" s_is_named ["value", "word", "many"]
  d_are_pairs : Def K mg "are_pairs" "are_pairs" s_are_pairs ["value", "lefts", "rights"]
  d_first_true : Def K mg "first_true" "first_true" s_first_true ["flags"]
  d_first_of : Def K mg "first_of" "first_of" s_first_of ["faults"]
  d_fault_at : Def K mg "fault_at" "fault_at" s_fault_at ["word", "place"]
  d_is_question : Def K mg "is_question" "is_question" s_is_question ["value"]
  d_lost_positions : Def K mg "lost_positions" "lost_positions" s_lost_positions ["question"]
  d_paper : Def K mg "paper" "paper" s_paper ["question"]
  d_holds : Def K mg "holds" "holds" s_holds ["question"]
  d_leads_into : Def K mg "leads_into" "leads_into" s_leads_into ["question", "positions", "position"]
  d_set_fault : Def K mg "set_fault" "set_fault" s_set_fault ["question", "positions", "is_lost"]
  d_fault : Def K mg "fault" "fault" s_fault ["question", "value"]
  d__law_is_integer : Def K mg "_law_is_integer" "_law_is_integer" s_law_is_integer ["actual"]
  d__law_same : Def K mg "_law_same" "_law_same" s_law_same ["actual", "due"]
  d__law_pool : Def K mg "_law_pool" "_law_pool" s_law_pool ["script"]
  d__law_spread : Def K mg "_law_spread" "_law_spread" s_law_spread ["cell"]
  d__law_draw : Def K mg "_law_draw" "_law_draw" s_law_draw ["pool", "many"]
  d__law_bent : Def K mg "_law_bent" "_law_bent" s_law_bent ["pool", "value"]
  d__law_booled : Def K mg "_law_booled" "_law_booled" s_law_booled ["value"]
  d__law_listed : Def K mg "_law_listed" "_law_listed" s_law_listed ["value", "deep"]
  d__law_odd_values : Def K mg "_law_odd_values" "_law_odd_values" s_law_odd_values []
  d__law_is_up : Def K mg "_law_is_up" "_law_is_up" s_law_is_up ["items"]
  d__law_is_row : Def K mg "_law_is_row" "_law_is_row" s_law_is_row ["value", "many", "low", "high"]
  d__law_is_number : Def K mg "_law_is_number" "_law_is_number" s_law_is_number ["value", "low", "high"]
  d__law_up_row : Def K mg "_law_up_row" "_law_up_row" s_law_up_row ["value", "low", "high"]
  d__law_word : Def K mg "_law_word" "_law_word" s_law_word ["value", "word", "many"]
  d__law_pair_rows : Def K mg "_law_pair_rows" "_law_pair_rows" s_law_pair_rows ["value", "lefts", "rights"]
  d__law_first : Def K mg "_law_first" "_law_first" s_law_first ["faults"]
  d__law_least : Def K mg "_law_least" "_law_least" s_law_least ["items"]
  d__law_some : Def K mg "_law_some" "_law_some" s_law_some ["pool", "many", "turn"]
  d__law_is_games : Def K mg "_law_is_games" "_law_is_games" s_law_is_games ["value"]
  d__law_q_games : Def K mg "_law_q_games" "_law_q_games" s_law_q_games ["pool"]
  d__law_wins : Def K mg "_law_wins" "_law_wins" s_law_wins ["position", "moves", "known"]
  d__law_yes_games : Def K mg "_law_yes_games" "_law_yes_games" s_law_yes_games ["q"]
  d__law_lost_faults : Def K mg "_law_lost_faults" "_law_lost_faults" s_law_lost_faults ["every", "row", "nexts"]
  d__law_f_games : Def K mg "_law_f_games" "_law_f_games" s_law_f_games ["q", "value"]
  d_law : Def K mg "law" "law" s_law ["script"]
  b_all : mg "all" = none
  b_any : mg "any" = none
  b_bool : mg "bool" = none
  b_int : mg "int" = none
  b_isinstance : mg "isinstance" = none
  b_len : mg "len" = none
  b_list : mg "list" = none
  b_max : mg "max" = none
  b_min : mg "min" = none
  b_range : mg "range" = none
  b_repr : mg "repr" = none
  b_set : mg "set" = none
  b_sorted : mg "sorted" = none
  b_str : mg "str" = none
  b_tuple : mg "tuple" = none
  g_FORM : Glob K mg "FORM" (.tuple [(.str "form"), (.int 0)])
  g_MOST : Glob K mg "MOST" (.int 30)
  g_MOST_MOVES : Glob K mg "MOST_MOVES" (.int 200)
/-! ### mirrors -/
/- 0, 1, 2, 3 -/
def m_are_pairs : List Sl → T R := fnM 4 (sSeq (sIf (tOrM (tNotM (tOf (mIsi "tuple" (mVar 0)))) (tNotM (tOf (mB bAll (mCons (mLc (iSeq (mVar 0)) (gSet 3) tYesM (mCall m_is_row (mCons (mVar 3) (mCons (mC (.int 2)) (mCons (mC (.int 0)) (mCons (mB bMax (mCons (mVar 1) (mCons (mVar 2) mNil))) mNil))))) [3]) mNil))))) (sRet (mC (.bool false))) sNext)
    (sRet (mAndV (mCall m_rises (mCons (mVar 0) mNil)) (mB bAll (mCons (mLc (iSeq (mVar 0)) (gSet 3) tYesM (mAndV (mBin dLt (mBin dIx (mVar 3) (mC (.int 0))) (mVar 1)) (mBin dLt (mBin dIx (mVar 3) (mC (.int 1))) (mVar 2))) [3]) mNil)))))
/- 0, 1, 2 -/
def m_is_question : List Sl → T R := fnM 3 (sSeq (sIf (tOrM (tNotM (tOf (mIsi "tuple" (mVar 0)))) (tOrM (tOf (mBin dNe (mB bLen (mCons (mVar 0) mNil)) (mC (.int 3)))) (tNotM (tOf (mCall m_is_from (mCons (mBin dIx (mVar 0) (mC (.int 0))) (mCons (mC (.int 1)) (mCons (mC (.int 30)) mNil)))))))) (sRet (mC (.bool false))) sNext)
    (sSeq (sIf (tOrM (tNotM (tOf (mCall m_are_pairs (mCons (mBin dIx (mVar 0) (mC (.int 1))) (mCons (mBin dIx (mVar 0) (mC (.int 0))) (mCons (mBin dIx (mVar 0) (mC (.int 0))) mNil)))))) (tOf (mBin dGt (mB bLen (mCons (mBin dIx (mVar 0) (mC (.int 1))) mNil)) (mC (.int 200))))) (sRet (mC (.bool false))) sNext)
    (sRet (mAndV (mB bAll (mCons (mLc (iSeq (mBin dIx (mVar 0) (mC (.int 1)))) (gTupM 2 (gsCons (gSet 1) (gsCons (gSet 2) gsNil))) tYesM (mBin dGt (mVar 1) (mVar 2)) [1, 2]) mNil)) (mCall m_is_from (mCons (mBin dIx (mVar 0) (mC (.int 2))) (mCons (mC (.int 0)) (mCons (mBin dSub (mBin dIx (mVar 0) (mC (.int 0))) (mC (.int 1))) mNil))))))))
/- 0, 1, 2, 3, 4 -/
def m_lost_positions : List Sl → T R := fnM 5 (sSeq (sSet 1 (mLst mNil))
    (sSeq (sFor (iRngM rng1 (mCons (mBin dIx (mVar 0) (mC (.int 0))) mNil)) (gSet 2) (sIf (tNotM (tOf (mB bAny (mCons (mLc (iSeq (mBin dIx (mVar 0) (mC (.int 1)))) (gTupM 2 (gsCons (gSet 3) (gsCons (gSet 4) gsNil))) tYesM (mAndV (mBin dEq (mVar 3) (mVar 2)) (mBin dIn (mVar 4) (mVar 1))) [3, 4]) mNil)))) (sApp 1 (mVar 2)) sNext))
    (sRet (mVar 1))))
/- 0, 1 -/
def m_paper : List Sl → T R := fnM 2 (sSeq (sSet 1 (mB bTuple (mCons (mCall m_lost_positions (mCons (mVar 0) mNil)) mNil)))
    (sRet (mIf (tOf (mBin dIn (mBin dIx (mVar 0) (mC (.int 2))) (mVar 1))) (mTup (mCons (mC (.str "loses")) (mCons (mVar 1) mNil))) (mTup (mCons (mC (.str "wins")) (mCons (mVar 1) mNil))))))
/- 0 -/
def m_holds : List Sl → T R := fnM 1 (sRet (mBin dNotIn (mBin dIx (mVar 0) (mC (.int 2))) (mCall m_lost_positions (mCons (mVar 0) mNil))))
/- 0, 1, 2, 3, 4 -/
def m_leads_into : List Sl → T R := fnM 5 (sRet (mB bAny (mCons (mLc (iSeq (mBin dIx (mVar 0) (mC (.int 1)))) (gTupM 2 (gsCons (gSet 3) (gsCons (gSet 4) gsNil))) tYesM (mAndV (mBin dEq (mVar 3) (mVar 2)) (mBin dIn (mVar 4) (mVar 1))) [3, 4]) mNil)))
/- 0, 1, 2, 3, 4, 5, 6, 7 -/
def m_set_fault : List Sl → T R := fnM 8 (sSeq (sSet 3 (mB bRange (mCons (mBin dIx (mVar 0) (mC (.int 0))) mNil)))
    (sSeq (sSet 4 (mCall m_first_true (mCons (mLc (iVarR 3) (gSet 5) tYesM (mAndV (mBin dIn (mVar 5) (mVar 1)) (mCall m_leads_into (mCons (mVar 0) (mCons (mVar 1) (mCons (mVar 5) mNil))))) [5]) mNil)))
    (sSeq (sSet 6 (mCall m_first_true (mCons (mLc (iVarR 3) (gSet 5) tYesM (mAndV (mBin dNotIn (mVar 5) (mVar 1)) (mNotV (mCall m_leads_into (mCons (mVar 0) (mCons (mVar 1) (mCons (mVar 5) mNil)))))) [5]) mNil)))
    (sSeq (sSet 7 (mIf (tOf (mBin dNe (mBin dIn (mBin dIx (mVar 0) (mC (.int 2))) (mVar 1)) (mVar 2))) (mBin dIx (mVar 0) (mC (.int 2))) (mC .none)))
    (sRet (mCall m_first_of (mCons (mLst (mCons (mCall m_fault_at (mCons (mC (.str "inner")) (mCons (mVar 4) mNil))) (mCons (mCall m_fault_at (mCons (mC (.str "outer")) (mCons (mVar 6) mNil))) (mCons (mCall m_fault_at (mCons (mC (.str "start")) (mCons (mVar 7) mNil))) mNil)))) mNil)))))))
/- 0, 1 -/
def m_fault : List Sl → T R := fnM 2 (sSeq (sIf (tAndM (tNotM (tOf (mCall m_is_named (mCons (mVar 1) (mCons (mC (.str "wins")) (mCons (mC (.int 2)) mNil)))))) (tNotM (tOf (mCall m_is_named (mCons (mVar 1) (mCons (mC (.str "loses")) (mCons (mC (.int 2)) mNil))))))) (sRet (mC (.tuple [(.str "form"), (.int 0)]))) sNext)
    (sSeq (sIf (tNotM (tOf (mCall m_is_rising_row (mCons (mBin dIx (mVar 1) (mC (.int 1))) (mCons (mC (.int 0)) (mCons (mBin dSub (mBin dIx (mVar 0) (mC (.int 0))) (mC (.int 1))) mNil)))))) (sRet (mC (.tuple [(.str "form"), (.int 0)]))) sNext)
    (sRet (mCall m_set_fault (mCons (mVar 0) (mCons (mBin dIx (mVar 1) (mC (.int 1))) (mCons (mBin dEq (mBin dIx (mVar 1) (mC (.int 0))) (mC (.str "loses"))) mNil)))))))
/- 0, 1, 2, 3 -/
def m_law_pair_rows : List Sl → T R := fnM 4 (sSeq (sIf (tOrM (tNotM (tOf (mIsi "tuple" (mVar 0)))) (tOf (mBin dGt (mB bLen (mCons (mLc (iSeq (mVar 0)) (gSet 3) (tNotM (tOf (mCall m_law_is_row (mCons (mVar 3) (mCons (mC (.int 2)) (mCons (mC (.int 0)) (mCons (mC (.int 99)) mNil))))))) (mVar 3) [3]) mNil)) (mC (.int 0))))) (sRet (mC (.bool false))) sNext)
    (sRet (mAndV (mCall m_law_is_up (mCons (mVar 0) mNil)) (mBin dEq (mB bLen (mCons (mLc (iSeq (mVar 0)) (gSet 3) (tOrM (tOf (mBin dGe (mBin dIx (mVar 3) (mC (.int 0))) (mVar 1))) (tOf (mBin dGe (mBin dIx (mVar 3) (mC (.int 1))) (mVar 2)))) (mVar 3) [3]) mNil)) (mC (.int 0))))))
/- 0, 1 -/
def m_law_is_games : List Sl → T R := fnM 2 (sSeq (sIf (tOrM (tNotM (tOf (mIsi "tuple" (mVar 0)))) (tOrM (tOf (mBin dNe (mB bLen (mCons (mVar 0) mNil)) (mC (.int 3)))) (tOrM (tNotM (tOf (mCall m_law_is_number (mCons (mBin dIx (mVar 0) (mC (.int 0))) (mCons (mC (.int 1)) (mCons (mC (.int 30)) mNil)))))) (tOrM (tNotM (tOf (mCall m_law_pair_rows (mCons (mBin dIx (mVar 0) (mC (.int 1))) (mCons (mBin dIx (mVar 0) (mC (.int 0))) (mCons (mBin dIx (mVar 0) (mC (.int 0))) mNil)))))) (tOf (mBin dGt (mB bLen (mCons (mBin dIx (mVar 0) (mC (.int 1))) mNil)) (mC (.int 200)))))))) (sRet (mC (.bool false))) sNext)
    (sRet (mAndV (mBin dEq (mB bLen (mCons (mLc (iSeq (mBin dIx (mVar 0) (mC (.int 1)))) (gSet 1) (tOf (mBin dLe (mBin dIx (mVar 1) (mC (.int 0))) (mBin dIx (mVar 1) (mC (.int 1))))) (mVar 1) [1]) mNil)) (mC (.int 0))) (mCall m_law_is_number (mCons (mBin dIx (mVar 0) (mC (.int 2))) (mCons (mC (.int 0)) (mCons (mBin dSub (mBin dIx (mVar 0) (mC (.int 0))) (mC (.int 1))) mNil)))))))
/- 0, 1, 2, 3, 4 -/
def m_law_q_games : List Sl → T R := fnM 5 (sSeq (sSet 1 (mBin dAdd (mC (.int 1)) (mCall mDraw (mCons (mVar 0) (mCons (mBin dIx (mTup (mCons (mC (.int 6)) (mCons (mC (.int 14)) mNil))) (mCall mDraw (mCons (mVar 0) (mCons (mC (.int 2)) mNil)))) mNil)))))
    (sSeq (sSet 2 (mLst mNil))
    (sSeq (sFor (iRngM rng1 (mCons (mCall mDraw (mCons (mVar 0) (mCons (mBin dIx (mTup (mCons (mC (.int 6)) (mCons (mC (.int 25)) mNil))) (mCall mDraw (mCons (mVar 0) (mCons (mC (.int 2)) mNil)))) mNil))) mNil)) (gSet 3) (sSeq (sSet 4 (mCall mDraw (mCons (mVar 0) (mCons (mVar 1) mNil))))
    (sIf (tOf (mBin dGt (mVar 4) (mC (.int 0)))) (sApp 2 (mTup (mCons (mVar 4) (mCons (mCall mDraw (mCons (mVar 0) (mCons (mVar 4) mNil))) mNil)))) sNext)))
    (sRet (mTup (mCons (mVar 1) (mCons (mB bTuple (mCons (mB bSS (mCons (mVar 2) mNil)) mNil)) (mCons (mCall mDraw (mCons (mVar 0) (mCons (mVar 1) mNil))) mNil))))))))
/- 0 -/
def m_law_yes_games : List Sl → T R := fnM 1 (sRet (mCallN (atW winW 40) (mCons (mBin dIx (mVar 0) (mC (.int 2))) (mCons (mBin dIx (mVar 0) (mC (.int 1))) mNil))))
/- 0, 1, 2, 3, 4, 5, 6, 7 -/
def m_law_lost_faults : List Sl → T R := fnM 8 (sSeq (sSet 3 (mLc (iRngM rng1 (mCons (mB bLen (mCons (mVar 0) mNil)) mNil)) (gSet 5) tYesM (mBin dGt (mB bLen (mCons (mLc (iSeq (mBin dIx (mVar 2) (mVar 5))) (gSet 4) (tOf (mBin dIn (mVar 4) (mVar 1))) (mVar 4) [4]) mNil)) (mC (.int 0))) [5]))
    (sSeq (sSet 6 (mLc (iRngM rng1 (mCons (mB bLen (mCons (mVar 0) mNil)) mNil)) (gSet 5) (tAndM (tOf (mBin dIn (mBin dIx (mVar 0) (mVar 5)) (mVar 1))) (tOf (mBin dIx (mVar 3) (mVar 5)))) (mVar 5) [5]))
    (sSeq (sSet 7 (mLc (iRngM rng1 (mCons (mB bLen (mCons (mVar 0) mNil)) mNil)) (gSet 5) (tAndM (tOf (mBin dNotIn (mBin dIx (mVar 0) (mVar 5)) (mVar 1))) (tNotM (tOf (mBin dIx (mVar 3) (mVar 5))))) (mVar 5) [5]))
    (sRet (mCall m_law_first (mCons (mLst (mCons (mTup (mCons (mC (.str "inner")) (mCons (mCall m_law_least (mCons (mVar 6) mNil)) mNil))) (mCons (mTup (mCons (mC (.str "outer")) (mCons (mCall m_law_least (mCons (mVar 7) mNil)) mNil))) mNil))) mNil))))))
/- 0, 1, 2, 3, 4, 5, 6, 7 -/
def m_law_f_games : List Sl → T R := fnM 8 (sSeq (sIf (tOrM (tNotM (tOrM (tOf (mCall m_law_word (mCons (mVar 1) (mCons (mC (.str "wins")) (mCons (mC (.int 2)) mNil))))) (tOf (mCall m_law_word (mCons (mVar 1) (mCons (mC (.str "loses")) (mCons (mC (.int 2)) mNil))))))) (tNotM (tOf (mCall m_law_up_row (mCons (mBin dIx (mVar 1) (mC (.int 1))) (mCons (mC (.int 0)) (mCons (mBin dSub (mBin dIx (mVar 0) (mC (.int 0))) (mC (.int 1))) mNil))))))) (sRet (mTup (mCons (mC (.str "form")) (mCons (mC (.int 0)) mNil)))) sNext)
    (sSeq (sSet 2 (mLRg (mBin dIx (mVar 0) (mC (.int 0)))))
    (sSeq (sSet 3 (mLc (iSeq (mVar 2)) (gSet 6) tYesM (mLc (iSeq (mBin dIx (mVar 0) (mC (.int 1)))) (gTupM 2 (gsCons (gSet 4) (gsCons (gSet 5) gsNil))) (tOf (mBin dEq (mVar 4) (mVar 6))) (mVar 5) [4, 5]) [6]))
    (sSeq (sSet 7 (mCall m_law_lost_faults (mCons (mVar 2) (mCons (mBin dIx (mVar 1) (mC (.int 1))) (mCons (mVar 3) mNil)))))
    (sSeq (sIf (tOf (mBin dIsNot (mVar 7) (mC .none))) (sRet (mVar 7)) sNext)
    (sRet (mIf (tOf (mBin dNe (mBin dIn (mBin dIx (mVar 0) (mC (.int 2))) (mBin dIx (mVar 1) (mC (.int 1)))) (mBin dEq (mBin dIx (mVar 1) (mC (.int 0))) (mC (.str "loses"))))) (mTup (mCons (mC (.str "start")) (mCons (mBin dIx (mVar 0) (mC (.int 2))) mNil))) (mC .none))))))))
/- 0, 1, 2, 3, 4, 5, 6, 7, 8, 9, 10 -/
def m_law : MS := (sSeq (sFor (iRngM rng1 (mCons (mC (.int 2)) mNil)) (gSet 2) (sSeq (sSet 3 (mCall m_law_q_games (mCons (mVar 1) mNil)))
    (sSeq (sSet 4 (mCall m_law_yes_games (mCons (mVar 3) mNil)))
    (sSeq (sSet 5 (mCall m_paper (mCons (mVar 3) mNil)))
    (sSeq (sIf (tOrM (tOf (mBin dIsNot (mCall m_law_f_games (mCons (mVar 3) (mCons (mVar 5) mNil))) (mC .none))) (tNotM (tOf (mCall (m_law_same 150) (mCons (mLst (mCons (mCall m_holds (mCons (mVar 3) mNil)) (mCons (mBin dIx (mVar 5) (mC (.int 0))) mNil))) (mCons (mLst (mCons (mVar 4) (mCons (mIf (tOf (mVar 4)) (mC (.str "wins")) (mC (.str "loses"))) mNil))) mNil)))))) (sRet (mC (.bool false))) sNext)
    (sSeq (sSet 6 (mCall m_paper (mCons (mCall m_law_q_games (mCons (mVar 1) mNil)) mNil)))
    (sSeq (sSet 7 (mLst (mCons (mVar 5) (mCons (mVar 6) (mCons (mB bList (mCons (mVar 5) mNil)) (mCons (mCall (m_law_listed 150) (mCons (mVar 5) (mCons (mC (.int 1)) mNil))) (mCons (mCall (m_law_listed 150) (mCons (mVar 5) (mCons (mC (.int 2)) mNil))) (mCons (mCall (m_law_booled 150) (mCons (mVar 5) mNil)) (mCons (mSl (mVar 5) oNone (oSome (mC (.int 1)))) (mCons (mBin dAdd (mVar 5) (mTup (mCons (mTup mNil) mNil))) (mCons (mBin dAdd (mTup (mCons (mC .none) mNil)) (mSl (mVar 5) (oSome (mC (.int 1))) oNone)) mNil)))))))))))
    (sSeq (sSet 7 (mBin dAdd (mVar 7) (mLst (mCons (mBin dAdd (mTup (mCons (mC (.str "wins")) mNil)) (mSl (mVar 5) (oSome (mC (.int 1))) oNone)) (mCons (mBin dAdd (mTup (mCons (mC (.str "loses")) mNil)) (mSl (mVar 5) (oSome (mC (.int 1))) oNone)) (mCons (mTup (mCons (mC (.str "wins")) (mCons (mTup mNil) mNil))) (mCons (mTup (mCons (mC (.str "loses")) (mCons (mTup mNil) mNil))) mNil)))))))
    (sSeq (sFor (iRngM rng1 (mCons (mC (.int 8)) mNil)) (gSet 8) (sSet 7 (mBin dAdd (mVar 7) (mLst (mCons (mTup (mCons (mBin dIx (mVar 5) (mC (.int 0))) (mCons (mCall m_law_some (mCons (mVar 1) (mCons (mBin dIx (mVar 3) (mC (.int 0))) (mCons (mC (.int 2)) mNil)))) mNil))) (mCons (mTup (mCons (mC (.str "loses")) (mCons (mCall m_law_some (mCons (mVar 1) (mCons (mBin dIx (mVar 3) (mC (.int 0))) (mCons (mC (.int 3)) mNil)))) mNil))) (mCons (mTup (mCons (mBin dIx (mVar 5) (mC (.int 0))) (mCons (mSl (mBin dIx (mVar 5) (mC (.int 1))) (oSome (mC (.int 1))) oNone) mNil))) mNil)))))))
    (sSeq (sFor (iSeq (mBin dAdd (mBin dAdd (mVar 7) (mCall m_law_odd_values mNil)) (mLc (iRngM rng1 (mCons (mC (.int 10)) mNil)) (gSet 8) tYesM (mCall (m_law_bent 150) (mCons (mVar 1) (mCons (mVar 5) mNil))) [8]))) (gSet 9) (sSeq (sSet 10 (mB bRepr (mCons (mVar 9) mNil)))
    (sIf (tOrM (tNotM (tOf (mCall (m_law_same 150) (mCons (mCall m_fault (mCons (mVar 3) (mCons (mVar 9) mNil))) (mCons (mCall m_law_f_games (mCons (mVar 3) (mCons (mVar 9) mNil))) mNil))))) (tOf (mBin dNe (mB bRepr (mCons (mVar 9) mNil)) (mVar 10)))) (sRet (mC (.bool false))) sNext)))
    (sFor (iSeq (mBin dAdd (mBin dAdd (mLst (mCons (mVar 3) (mCons (mIf (tOf (mIsi "tuple" (mVar 3))) (mB bList (mCons (mVar 3) mNil)) (mVar 3)) (mCons (mCall (m_law_listed 150) (mCons (mVar 3) (mCons (mC (.int 1)) mNil))) (mCons (mCall (m_law_listed 150) (mCons (mVar 3) (mCons (mC (.int 2)) mNil))) (mCons (mCall (m_law_booled 150) (mCons (mVar 3) mNil)) mNil)))))) (mCall m_law_odd_values mNil)) (mLc (iRngM rng1 (mCons (mC (.int 12)) mNil)) (gSet 8) tYesM (mCall (m_law_bent 150) (mCons (mVar 1) (mCons (mVar 3) mNil))) [8]))) (gSet 9) (sIf (tNotM (tOf (mCall (m_law_same 150) (mCons (mCall m_is_question (mCons (mVar 9) mNil)) (mCons (mCall m_law_is_games (mCons (mVar 9) mNil)) mNil))))) (sRet (mC (.bool false))) sNext))))))))))))
    (sRet (mC (.bool true))))
section
variable {P : Program} {w : World} {K : PySem.W.Frag} {mg : Str → Option Value} {base : Heap}
theorem ok_is_whole (T : Tx K mg) : Fn P w K mg base 1 "is_whole" 1 m_is_whole := fn_def (k := 0) T.d_is_whole sc_is_whole rfl (by decide) fun f cdv A outer s H E hr => (db_one (ds_ret (de_and (de_isi (by decide) (by rfl) T.b_isinstance (by rfl) T.b_int (by decide +kernel) (de_var 0)) (de_one (de_not (de_isi (by decide) (by rfl) T.b_isinstance (by rfl) T.b_bool (by decide +kernel) (de_var 0)))))))
theorem ok_is_from (T : Tx K mg) : Fn P w K mg base 2 "is_from" 3 m_is_from := fn_def (k := 1) T.d_is_from sc_is_from rfl (by decide) fun f cdv A outer s H E hr => (db_one (ds_ret (de_and (de_call (ok_is_whole T) hr (by decide) (by rfl) (da_cons (de_var 0) da_nil) (cnt_cons cnt_nil)) (de_one (de_chain od_le od_le (de_var 1) (de_var 0) (de_var 2))))))
theorem ok_is_row (T : Tx K mg) : Fn P w K mg base 3 "is_row" 4 m_is_row := fn_def (k := 2) T.d_is_row sc_is_row rfl (by decide) fun f cdv A outer s H E hr => (db_one (ds_ret (de_and (de_isi (by decide) (by rfl) T.b_isinstance (by rfl) T.b_tuple (by decide +kernel) (de_var 0)) (de_and (de_cmp (od_eq (hu150 hr)) (de_b cd_len (by rfl) T.b_len PySem.boot_len (da_cons (de_var 0) da_nil)) (de_var 1)) (de_one (de_b (cd_all rfl) (by rfl) T.b_all (by decide +kernel) (da_cons (de_lc (own := [("item", 4)]) rfl sc_is_row.nd (di_seq (de_var 0)) (blkOk_by (by kernel_rfl)) (by decide) (gok_set 4) (fun _ _ _ _ _ => (tg_name 4 sc_is_row.nd)) (fun _ _ _ _ _ => pts_yes) (fun _ _ _ _ _ => (de_call (ok_is_from T) hr (by decide) (by rfl) (da_cons (de_var 4) (da_cons (de_var 2) (da_cons (de_var 3) da_nil))) (cnt_cons (cnt_cons (cnt_cons cnt_nil)))))) da_nil)))))))
theorem ok_is_some_row (T : Tx K mg) : Fn P w K mg base 3 "is_some_row" 3 m_is_some_row := fn_def (k := 2) T.d_is_some_row sc_is_some_row rfl (by decide) fun f cdv A outer s H E hr => (db_one (ds_ret (de_and (de_isi (by decide) (by rfl) T.b_isinstance (by rfl) T.b_tuple (by decide +kernel) (de_var 0)) (de_one (de_b (cd_all rfl) (by rfl) T.b_all (by decide +kernel) (da_cons (de_lc (own := [("item", 3)]) rfl sc_is_some_row.nd (di_seq (de_var 0)) (blkOk_by (by kernel_rfl)) (by decide) (gok_set 3) (fun _ _ _ _ _ => (tg_name 3 sc_is_some_row.nd)) (fun _ _ _ _ _ => pts_yes) (fun _ _ _ _ _ => (de_call (ok_is_from T) hr (by decide) (by rfl) (da_cons (de_var 3) (da_cons (de_var 1) (da_cons (de_var 2) da_nil))) (cnt_cons (cnt_cons (cnt_cons cnt_nil)))))) da_nil))))))
theorem ok_rises (T : Tx K mg) : Fn P w K mg base 1 "rises" 1 m_rises := fn_def (k := 0) T.d_rises sc_rises rfl (by decide) fun f cdv A outer s H E hr => (db_one (ds_ret (de_b (cd_all rfl) (by rfl) T.b_all (by decide +kernel) (da_cons (de_lc (own := [("k", 1)]) rfl sc_rises.nd (di_range1 (by rfl) T.b_range (da_cons (de_bin od_sub (de_b cd_len (by rfl) T.b_len PySem.boot_len (da_cons (de_var 0) da_nil)) de_int) da_nil)) (blkOk_by (by kernel_rfl)) (by decide) (gok_set 1) (fun _ _ _ _ _ => (tg_name 1 sc_rises.nd)) (fun _ _ _ _ _ => pts_yes) (fun _ _ _ _ _ => (de_cmp (od_lt (hu150 hr)) (de_ix (hu150 hr) (de_var 0) (de_var 1)) (de_ix (hu150 hr) (de_var 0) (de_bin od_add (de_var 1) de_int))))) da_nil))))
theorem ok_is_rising_row (T : Tx K mg) : Fn P w K mg base 4 "is_rising_row" 3 m_is_rising_row := fn_def (k := 3) T.d_is_rising_row sc_is_rising_row rfl (by decide) fun f cdv A outer s H E hr => (db_one (ds_ret (de_and (de_call (ok_is_some_row T) hr (by decide) (by rfl) (da_cons (de_var 0) (da_cons (de_var 1) (da_cons (de_var 2) da_nil))) (cnt_cons (cnt_cons (cnt_cons cnt_nil)))) (de_one (de_call (ok_rises T) hr (by decide) (by rfl) (da_cons (de_var 0) da_nil) (cnt_cons cnt_nil))))))
theorem ok_is_named (T : Tx K mg) : Fn P w K mg base 1 "is_named" 3 m_is_named := fn_def (k := 0) T.d_is_named sc_is_named rfl (by decide) fun f cdv A outer s H E hr => (db_one (ds_ret (de_and (de_isi (by decide) (by rfl) T.b_isinstance (by rfl) T.b_tuple (by decide +kernel) (de_var 0)) (de_and (de_cmp (od_eq (hu150 hr)) (de_b cd_len (by rfl) T.b_len PySem.boot_len (da_cons (de_var 0) da_nil)) (de_var 2)) (de_and (de_isi (by decide) (by rfl) T.b_isinstance (by rfl) T.b_str (by decide +kernel) (de_ix (hu150 hr) (de_var 0) de_int)) (de_one (de_cmp (od_eq (hu150 hr)) (de_ix (hu150 hr) (de_var 0) de_int) (de_var 1))))))))
theorem ok_are_pairs (T : Tx K mg) : Fn P w K mg base 4 "are_pairs" 3 m_are_pairs := fn_def (k := 3) T.d_are_pairs sc_are_pairs rfl (by decide) fun f cdv A outer s H E hr => (db_cons (ds_if (dt_w (dw_or (dt_not (dt_val (de_isi (by decide) (by rfl) T.b_isinstance (by rfl) T.b_tuple (by decide +kernel) (de_var 0)))) (dw_or1 (dt_not (dt_val (de_b (cd_all rfl) (by rfl) T.b_all (by decide +kernel) (da_cons (de_lc (own := [("pair", 3)]) rfl sc_are_pairs.nd (di_seq (de_var 0)) (blkOk_by (by kernel_rfl)) (by decide) (gok_set 3) (fun _ _ _ _ _ => (tg_name 3 sc_are_pairs.nd)) (fun _ _ _ _ _ => pts_yes) (fun _ _ _ _ _ => (de_call (ok_is_row T) hr (by decide) (by rfl) (da_cons (de_var 3) (da_cons de_int (da_cons de_int (da_cons (de_b (cd_max2 rfl) (by rfl) T.b_max (by decide +kernel) (da_cons (de_var 1) (da_cons (de_var 2) da_nil))) da_nil)))) (cnt_cons (cnt_cons (cnt_cons (cnt_cons cnt_nil))))))) da_nil))))))) (db_one (ds_ret de_bool)) db_nil)
    (db_one (ds_ret (de_and (de_call (ok_rises T) hr (by decide) (by rfl) (da_cons (de_var 0) da_nil) (cnt_cons cnt_nil)) (de_one (de_b (cd_all rfl) (by rfl) T.b_all (by decide +kernel) (da_cons (de_lc (own := [("pair", 3)]) rfl sc_are_pairs.nd (di_seq (de_var 0)) (blkOk_by (by kernel_rfl)) (by decide) (gok_set 3) (fun _ _ _ _ _ => (tg_name 3 sc_are_pairs.nd)) (fun _ _ _ _ _ => pts_yes) (fun _ _ _ _ _ => (de_and (de_cmp (od_lt (hu150 hr)) (de_ix (hu150 hr) (de_var 3) de_int) (de_var 1)) (de_one (de_cmp (od_lt (hu150 hr)) (de_ix (hu150 hr) (de_var 3) de_int) (de_var 2)))))) da_nil)))))))
theorem ok_first_true (T : Tx K mg) : Fn P w K mg base 1 "first_true" 1 m_first_true := fn_def (k := 0) T.d_first_true sc_first_true rfl (by decide) fun f cdv A outer s H E hr => (db_cons (ds_for PassesOwn.never rfl (di_range1 (by rfl) T.b_range (da_cons (de_b cd_len (by rfl) T.b_len PySem.boot_len (da_cons (de_var 0) da_nil)) da_nil)) (tg_name 1 sc_first_true.nd) (db_one (ds_if (dt_val (de_ix (hu150 hr) (de_var 0) (de_var 1))) (db_one (ds_ret (de_var 1))) db_nil)))
    (db_one (ds_ret de_none)))
theorem ok_first_of (T : Tx K mg) : Fn P w K mg base 1 "first_of" 1 m_first_of := fn_def (k := 0) T.d_first_of sc_first_of rfl (by decide) fun f cdv A outer s H E hr => (db_cons (ds_for PassesOwn.never rfl (di_seq (de_var 0)) (tg_name 1 sc_first_of.nd) (db_one (ds_if (dt_cmp od_isnot (de_var 1) de_none) (db_one (ds_ret (de_var 1))) db_nil)))
    (db_one (ds_ret de_none)))
theorem ok_fault_at (T : Tx K mg) : Fn P w K mg base 1 "fault_at" 2 m_fault_at := fn_def (k := 0) T.d_fault_at sc_fault_at rfl (by decide) fun f cdv A outer s H E hr => (db_one (ds_ret (de_if (dt_cmp od_is (de_var 1) de_none) de_none (de_tup (da_cons (de_var 0) (da_cons (de_var 1) da_nil))))))
theorem ok_is_question (T : Tx K mg) : Fn P w K mg base 5 "is_question" 1 m_is_question := fn_def (k := 4) T.d_is_question sc_is_question rfl (by decide) fun f cdv A outer s H E hr => (db_cons (ds_if (dt_w (dw_or (dt_not (dt_val (de_isi (by decide) (by rfl) T.b_isinstance (by rfl) T.b_tuple (by decide +kernel) (de_var 0)))) (dw_or (dt_cmp (od_ne (hu150 hr)) (de_b cd_len (by rfl) T.b_len PySem.boot_len (da_cons (de_var 0) da_nil)) de_int) (dw_or1 (dt_not (dt_val (de_call (ok_is_from T) hr (by decide) (by rfl) (da_cons (de_ix (hu150 hr) (de_var 0) de_int) (da_cons de_int (da_cons (de_glob (by rfl) T.g_MOST) da_nil))) (cnt_cons (cnt_cons (cnt_cons cnt_nil)))))))))) (db_one (ds_ret de_bool)) db_nil)
    (db_cons (ds_if (dt_w (dw_or (dt_not (dt_val (de_call (ok_are_pairs T) hr (by decide) (by rfl) (da_cons (de_ix (hu150 hr) (de_var 0) de_int) (da_cons (de_ix (hu150 hr) (de_var 0) de_int) (da_cons (de_ix (hu150 hr) (de_var 0) de_int) da_nil))) (cnt_cons (cnt_cons (cnt_cons cnt_nil)))))) (dw_or1 (dt_cmp od_gt (de_b cd_len (by rfl) T.b_len PySem.boot_len (da_cons (de_ix (hu150 hr) (de_var 0) de_int) da_nil)) (de_glob (by rfl) T.g_MOST_MOVES))))) (db_one (ds_ret de_bool)) db_nil)
    (db_one (ds_ret (de_and (de_b (cd_all rfl) (by rfl) T.b_all (by decide +kernel) (da_cons (de_lc (own := [("a", 1), ("b", 2)]) rfl sc_is_question.nd (di_seq (de_ix (hu150 hr) (de_var 0) de_int)) (blkOk_by (by kernel_rfl)) (by decide) (gok_tup (gsok_cons (gok_set 1) (gsok_cons (gok_set 2) gsok_nil))) (fun _ _ _ _ _ => (tg_tup rfl (tgs_cons (tg_name 1 sc_is_question.nd) (tgs_cons (tg_name 2 sc_is_question.nd) tgs_nil)))) (fun _ _ _ _ _ => pts_yes) (fun _ _ _ _ _ => (de_cmp od_gt (de_var 1) (de_var 2)))) da_nil)) (de_one (de_call (ok_is_from T) hr (by decide) (by rfl) (da_cons (de_ix (hu150 hr) (de_var 0) de_int) (da_cons de_int (da_cons (de_bin od_sub (de_ix (hu150 hr) (de_var 0) de_int) de_int) da_nil))) (cnt_cons (cnt_cons (cnt_cons cnt_nil))))))))))
theorem ok_lost_positions (T : Tx K mg) : Fn P w K mg base 1 "lost_positions" 1 m_lost_positions := fn_def (k := 0) T.d_lost_positions sc_lost_positions rfl (by decide) fun f cdv A outer s H E hr => (db_cons (ds_set 1 sc_lost_positions.nd (de_lst da_nil))
    (db_cons (ds_for PassesOwn.never rfl (di_range1 (by rfl) T.b_range (da_cons (de_ix (hu150 hr) (de_var 0) de_int) da_nil)) (tg_name 2 sc_lost_positions.nd) (db_one (ds_if (dt_not (dt_val (de_b (cd_any rfl) (by rfl) T.b_any (by decide +kernel) (da_cons (de_lc (own := [("a", 3), ("b", 4)]) rfl sc_lost_positions.nd (di_seq (de_ix (hu150 hr) (de_var 0) de_int)) (blkOk_by (by kernel_rfl)) (by decide) (gok_tup (gsok_cons (gok_set 3) (gsok_cons (gok_set 4) gsok_nil))) (fun _ _ _ _ _ => (tg_tup rfl (tgs_cons (tg_name 3 sc_lost_positions.nd) (tgs_cons (tg_name 4 sc_lost_positions.nd) tgs_nil)))) (fun _ _ _ _ _ => pts_yes) (fun _ _ _ _ _ => (de_and (de_cmp (od_eq (hu150 hr)) (de_var 3) (de_var 2)) (de_one (de_cmp (od_in (hu150 hr)) (de_var 4) (de_var 1)))))) da_nil)))) (db_one (ds_app' 1 (de_var 2))) db_nil)))
    (db_one (ds_ret (de_var 1)))))
theorem ok_paper (T : Tx K mg) : Fn P w K mg base 2 "paper" 1 m_paper := fn_def (k := 1) T.d_paper sc_paper rfl (by decide) fun f cdv A outer s H E hr => (db_cons (ds_set 1 sc_paper.nd (de_ty cd_tuple (by rfl) T.b_tuple (by decide +kernel) (da_cons (de_call (ok_lost_positions T) hr (by decide) (by rfl) (da_cons (de_var 0) da_nil) (cnt_cons cnt_nil)) da_nil)))
    (db_one (ds_ret (de_if (dt_cmp (od_in (hu150 hr)) (de_ix (hu150 hr) (de_var 0) de_int) (de_var 1)) (de_tup (da_cons de_str (da_cons (de_var 1) da_nil))) (de_tup (da_cons de_str (da_cons (de_var 1) da_nil)))))))
theorem ok_holds (T : Tx K mg) : Fn P w K mg base 2 "holds" 1 m_holds := fn_def (k := 1) T.d_holds sc_holds rfl (by decide) fun f cdv A outer s H E hr => (db_one (ds_ret (de_cmp (od_notin (hu150 hr)) (de_ix (hu150 hr) (de_var 0) de_int) (de_call (ok_lost_positions T) hr (by decide) (by rfl) (da_cons (de_var 0) da_nil) (cnt_cons cnt_nil)))))
theorem ok_leads_into (T : Tx K mg) : Fn P w K mg base 1 "leads_into" 3 m_leads_into := fn_def (k := 0) T.d_leads_into sc_leads_into rfl (by decide) fun f cdv A outer s H E hr => (db_one (ds_ret (de_b (cd_any rfl) (by rfl) T.b_any (by decide +kernel) (da_cons (de_lc (own := [("a", 3), ("b", 4)]) rfl sc_leads_into.nd (di_seq (de_ix (hu150 hr) (de_var 0) de_int)) (blkOk_by (by kernel_rfl)) (by decide) (gok_tup (gsok_cons (gok_set 3) (gsok_cons (gok_set 4) gsok_nil))) (fun _ _ _ _ _ => (tg_tup rfl (tgs_cons (tg_name 3 sc_leads_into.nd) (tgs_cons (tg_name 4 sc_leads_into.nd) tgs_nil)))) (fun _ _ _ _ _ => pts_yes) (fun _ _ _ _ _ => (de_and (de_cmp (od_eq (hu150 hr)) (de_var 3) (de_var 2)) (de_one (de_cmp (od_in (hu150 hr)) (de_var 4) (de_var 1)))))) da_nil))))
theorem ok_set_fault (T : Tx K mg) : Fn P w K mg base 2 "set_fault" 3 m_set_fault := fn_def (k := 1) T.d_set_fault sc_set_fault rfl (by decide) fun f cdv A outer s H E hr => (db_cons (ds_set 3 sc_set_fault.nd (de_ty cd_range (by rfl) T.b_range (by decide +kernel) (da_cons (de_ix (hu150 hr) (de_var 0) de_int) da_nil)))
    (db_cons (ds_set 4 sc_set_fault.nd (de_call (ok_first_true T) hr (by decide) (by rfl) (da_cons (de_lc (own := [("k", 5)]) rfl sc_set_fault.nd (di_rgv 3) (blkOk_by (by kernel_rfl)) (by decide) (gok_set 5) (fun _ _ _ _ _ => (tg_name 5 sc_set_fault.nd)) (fun _ _ _ _ _ => pts_yes) (fun _ _ _ _ _ => (de_and (de_cmp (od_in (hu150 hr)) (de_var 5) (de_var 1)) (de_one (de_call (ok_leads_into T) hr (by decide) (by rfl) (da_cons (de_var 0) (da_cons (de_var 1) (da_cons (de_var 5) da_nil))) (cnt_cons (cnt_cons (cnt_cons cnt_nil)))))))) da_nil) (cnt_cons cnt_nil)))
    (db_cons (ds_set 6 sc_set_fault.nd (de_call (ok_first_true T) hr (by decide) (by rfl) (da_cons (de_lc (own := [("k", 5)]) rfl sc_set_fault.nd (di_rgv 3) (blkOk_by (by kernel_rfl)) (by decide) (gok_set 5) (fun _ _ _ _ _ => (tg_name 5 sc_set_fault.nd)) (fun _ _ _ _ _ => pts_yes) (fun _ _ _ _ _ => (de_and (de_cmp (od_notin (hu150 hr)) (de_var 5) (de_var 1)) (de_one (de_not (de_call (ok_leads_into T) hr (by decide) (by rfl) (da_cons (de_var 0) (da_cons (de_var 1) (da_cons (de_var 5) da_nil))) (cnt_cons (cnt_cons (cnt_cons cnt_nil))))))))) da_nil) (cnt_cons cnt_nil)))
    (db_cons (ds_set 7 sc_set_fault.nd (de_if (dt_cmp (od_ne (hu150 hr)) (de_cmp (od_in (hu150 hr)) (de_ix (hu150 hr) (de_var 0) de_int) (de_var 1)) (de_var 2)) (de_ix (hu150 hr) (de_var 0) de_int) de_none))
    (db_one (ds_ret (de_call (ok_first_of T) hr (by decide) (by rfl) (da_cons (de_lst (da_cons (de_call (ok_fault_at T) hr (by decide) (by rfl) (da_cons de_str (da_cons (de_var 4) da_nil)) (cnt_cons (cnt_cons cnt_nil))) (da_cons (de_call (ok_fault_at T) hr (by decide) (by rfl) (da_cons de_str (da_cons (de_var 6) da_nil)) (cnt_cons (cnt_cons cnt_nil))) (da_cons (de_call (ok_fault_at T) hr (by decide) (by rfl) (da_cons de_str (da_cons (de_var 7) da_nil)) (cnt_cons (cnt_cons cnt_nil))) da_nil)))) da_nil) (cnt_cons cnt_nil))))))))
theorem ok_fault (T : Tx K mg) : Fn P w K mg base 5 "fault" 2 m_fault := fn_def (k := 4) T.d_fault sc_fault rfl (by decide) fun f cdv A outer s H E hr => (db_cons (ds_if (dt_w (dw_and (dt_not (dt_val (de_call (ok_is_named T) hr (by decide) (by rfl) (da_cons (de_var 1) (da_cons de_str (da_cons de_int da_nil))) (cnt_cons (cnt_cons (cnt_cons cnt_nil)))))) (dw_and1 (dt_not (dt_val (de_call (ok_is_named T) hr (by decide) (by rfl) (da_cons (de_var 1) (da_cons de_str (da_cons de_int da_nil))) (cnt_cons (cnt_cons (cnt_cons cnt_nil))))))))) (db_one (ds_ret (de_glob (by rfl) T.g_FORM))) db_nil)
    (db_cons (ds_if (dt_not (dt_val (de_call (ok_is_rising_row T) hr (by decide) (by rfl) (da_cons (de_ix (hu150 hr) (de_var 1) de_int) (da_cons de_int (da_cons (de_bin od_sub (de_ix (hu150 hr) (de_var 0) de_int) de_int) da_nil))) (cnt_cons (cnt_cons (cnt_cons cnt_nil)))))) (db_one (ds_ret (de_glob (by rfl) T.g_FORM))) db_nil)
    (db_one (ds_ret (de_call (ok_set_fault T) hr (by decide) (by rfl) (da_cons (de_var 0) (da_cons (de_ix (hu150 hr) (de_var 1) de_int) (da_cons (de_cmp (od_eq (hu150 hr)) (de_ix (hu150 hr) (de_var 1) de_int) de_str) da_nil))) (cnt_cons (cnt_cons (cnt_cons cnt_nil))))))))
theorem ok_law_is_integer (T : Tx K mg) : Fn P w K mg base 1 "_law_is_integer" 1 m_law_is_integer := fn_def (k := 0) T.d__law_is_integer sc_law_is_integer rfl (by decide) fun f cdv A outer s H E hr => (db_one (ds_ret (de_and (de_isi (by decide) (by rfl) T.b_isinstance (by rfl) T.b_int (by decide +kernel) (de_var 0)) (de_one (de_not (de_isi (by decide) (by rfl) T.b_isinstance (by rfl) T.b_bool (by decide +kernel) (de_var 0)))))))
theorem ok_law_same' (T : Tx K mg) : ∀ n : Nat, Fn P w K mg base (0 + n) "_law_same" 2 (m_law_same n)
  | 0 => fn_zero (ps := ["actual", "due"]) T.d__law_same
  | n + 1 => by
    have R := ok_law_same' T n
    exact fn_def (k := 0 + n) T.d__law_same sc_law_same rfl (by decide) fun f cdv A outer s H E hr => (db_cons (ds_if (dt_w (dw_or (dt_val (de_isi (by decide) (by rfl) T.b_isinstance (by rfl) T.b_tuple (by decide +kernel) (de_var 1))) (dw_or1 (dt_val (de_isi (by decide) (by rfl) T.b_isinstance (by rfl) T.b_list (by decide +kernel) (de_var 1)))))) (db_cons (ds_if (dt_w (dw_or (dt_cmp (od_ne (hu150 hr)) (de_isi (by decide) (by rfl) T.b_isinstance (by rfl) T.b_tuple (by decide +kernel) (de_var 1)) (de_isi (by decide) (by rfl) T.b_isinstance (by rfl) T.b_tuple (by decide +kernel) (de_var 0))) (dw_or (dt_cmp (od_ne (hu150 hr)) (de_isi (by decide) (by rfl) T.b_isinstance (by rfl) T.b_list (by decide +kernel) (de_var 1)) (de_isi (by decide) (by rfl) T.b_isinstance (by rfl) T.b_list (by decide +kernel) (de_var 0))) (dw_or1 (dt_cmp (od_ne (hu150 hr)) (de_b cd_len (by rfl) T.b_len PySem.boot_len (da_cons (de_var 0) da_nil)) (de_b cd_len (by rfl) T.b_len PySem.boot_len (da_cons (de_var 1) da_nil))))))) (db_one (ds_ret de_bool)) db_nil)
    (db_one (ds_ret (de_cmp (od_eq (hu150 hr)) (de_b cd_len (by rfl) T.b_len PySem.boot_len (da_cons (de_lc (own := [("k", 2)]) rfl sc_law_same.nd (di_range1 (by rfl) T.b_range (da_cons (de_b cd_len (by rfl) T.b_len PySem.boot_len (da_cons (de_var 1) da_nil)) da_nil)) (blkOk_by (by kernel_rfl)) (by decide) (gok_set 2) (fun _ _ _ _ _ => (tg_name 2 sc_law_same.nd)) (fun _ _ _ _ _ => (pts_if (dt_not (dt_val (de_call R hr (Nat.le_refl _) (by rfl) (da_cons (de_ix (hu150 hr) (de_var 0) (de_var 2)) (da_cons (de_ix (hu150 hr) (de_var 1) (de_var 2)) da_nil)) (cnt_cons (cnt_cons cnt_nil))))))) (fun _ _ _ _ _ => (de_var 2))) da_nil)) de_int)))) db_nil)
    (db_cons (ds_if (dt_cmp od_is (de_var 1) de_none) (db_one (ds_ret (de_cmp od_is (de_var 0) de_none))) db_nil)
    (db_cons (ds_if (dt_w (dw_or (dt_val (de_isi (by decide) (by rfl) T.b_isinstance (by rfl) T.b_bool (by decide +kernel) (de_var 1))) (dw_or1 (dt_val (de_isi (by decide) (by rfl) T.b_isinstance (by rfl) T.b_bool (by decide +kernel) (de_var 0)))))) (db_one (ds_ret (de_and (de_isi (by decide) (by rfl) T.b_isinstance (by rfl) T.b_bool (by decide +kernel) (de_var 1)) (de_and (de_isi (by decide) (by rfl) T.b_isinstance (by rfl) T.b_bool (by decide +kernel) (de_var 0)) (de_one (de_cmp (od_eq (hu150 hr)) (de_var 0) (de_var 1))))))) db_nil)
    (db_cons (ds_if (dt_val (de_isi (by decide) (by rfl) T.b_isinstance (by rfl) T.b_int (by decide +kernel) (de_var 1))) (db_one (ds_ret (de_and (de_isi (by decide) (by rfl) T.b_isinstance (by rfl) T.b_int (by decide +kernel) (de_var 0)) (de_one (de_cmp (od_eq (hu150 hr)) (de_var 0) (de_var 1)))))) db_nil)
    (db_one (ds_ret (de_and (de_isi (by decide) (by rfl) T.b_isinstance (by rfl) T.b_str (by decide +kernel) (de_var 0)) (de_and (de_isi (by decide) (by rfl) T.b_isinstance (by rfl) T.b_str (by decide +kernel) (de_var 1)) (de_one (de_cmp (od_eq (hu150 hr)) (de_var 0) (de_var 1)))))))))))
theorem ok_law_same (T : Tx K mg) : Fn P w K mg base 150 "_law_same" 2 (m_law_same 150) := ok_law_same' T 150
theorem ok_law_pool (T : Tx K mg) : ∃ a fd, FnOk P w K mg base CX0 1 a fd ["script"] (spPool K) ∧ mg "_law_pool" = some (.ref a) ∧ PySem.W.keepIn K (.ref a) = true ∧ L2.Binds K fd ["script"] [] := by
  obtain ⟨a, fd, F, hm, b⟩ := T.d__law_pool.ex
  refine ⟨a, fd, ?_, hm, F.kp, b⟩
  refine F.ok sc_law_pool (fun vs H Q E h => by obtain ⟨a, ns, rfl, _⟩ := h; rfl) (fun cdv A outer s H vs Q E hr h => ?_)
  obtain ⟨a, ns, rfl, hS, hl, q⟩ := h
  refine ⟨_, pss_cons (ps_set (i := 1) sc_law_pool.nd rfl (.inl rfl) pe_int)
    (pss_cons (ps_for PassesOwn.never rfl (pi_list (pe_slice sl_list (pv 0) po_none (po_some pe_int))) (pg_name (i := 2) sc_law_pool.nd rfl (.inl rfl))
      (pss_one (ps_set (i := 1) sc_law_pool.nd rfl (.inl rfl) (pe_op op_mod (pe_callTy call_int1 (by rfl) T.b_int (by decide +kernel) (pa_cons (pe_op op_add (pe_op op_mul (pv 1) pe_int) (pv 2)) pa_nil)) pe_int))))
    (pss_one (ps_ret (pe_lst (pa_cons (pe_callTy call_list_of (by rfl) T.b_list (by decide +kernel) (pa_cons (pv 0) pa_nil)) (pa_cons pe_int (pa_cons pe_int (pa_cons pe_int (pa_cons (pv 1) pa_nil)))))))))
    , ?_⟩
  obtain ⟨ms, hms⟩ : ∃ ms : List Int, cutV (ns.map V.int) none (some 63) = ms.map V.int := ⟨_, by unfold cutV; rw [← List.map_drop, ← List.map_take]⟩
  refine ⟨.ref a, rfl, 63, rfl, a, ns.map V.int, rfl, hS, fun c nc => ?_⟩
  rw [hms]
  have s1 : Same H (upd H c (.lst (ms.map V.int))) := fun b x e => by
    rw [upd_ne (ne_of_none e nc)]
    exact e
  have hC : SqL K (upd H c (.lst (ms.map V.int))) c (ms.map V.int) := .inl (.inl upd_same)
  refine ⟨c, rfl, ⟨_, hC⟩, fun i m σ H3 => ∃ t y2, σ = [some (.ref a), some (.int t), y2] ∧ i + m = ms.length ∧ H3 = upd H c (.lst (ms.map V.int)), ⟨ms.length, 7, none, rfl, by omega, rfl⟩, fun i m σ H3 hW => ?_⟩
  obtain ⟨t, y2, rfl, em, rfl⟩ := hW
  by_cases hi : i < ms.length
  · have g : (ms.map V.int)[i]? = some (.int ms[i]) := by
      rw [List.getElem?_map, List.getElem?_eq_getElem hi]
      rfl
    refine .inr ⟨⟨_, _, hC, g⟩, fun σ' H' => ∃ t y2, σ' = [some (.ref a), some (.int t), y2] ∧ H' = upd H c (.lst (ms.map V.int)), fun σ' H' hN => ?_, fun v H' hy => ?_⟩
    · obtain ⟨t', z, e1, e2⟩ := hN
      exact ⟨m - 1, by omega, t', z, e1, by omega, e2⟩
    · obtain ⟨rfl, fv⟩ := hy
      have ev : v = .int ms[i] := Option.some.inj ((fv _ hC).symm.trans g)
      subst ev
      generalize ms[i] = y
      refine ⟨.int t, rfl, t, 31, rfl, rfl, .inr (by decide), .int y, rfl, t * 31, y, rfl, rfl, .inl ⟨_, rfl, _, 1000003, rfl, rfl, (show (0:Int) < 1000003 by decide), ?_⟩⟩
      exact ⟨_, _, rfl, rfl⟩
  · refine .inl ⟨⟨_, hC, by rw [List.length_map]; omega⟩, ?_⟩
    refine ⟨.ref a, rfl, a, ns.map V.int, rfl, .inl (s1.seq hS), fun l nl => ?_⟩
    refine ⟨.int t, rfl, (by decide : 5 ≤ sizeLine), fun p np => ?_⟩
    have s2 : Same (upd H c (.lst (ms.map V.int))) (upd (upd H c (.lst (ms.map V.int))) l (.lst (ns.map V.int))) := fun b x e => by
      rw [upd_ne (ne_of_none e nl)]
      exact e
    have pl : p ≠ l := fun z => by rw [z, upd_same] at np; cases np
    have s3 := (s1.trans s2)
    refine q p l t _ (fun b x e => ?_) ?_ ?_ pl upd_same (by rw [upd_ne pl.symm, upd_same])
    · rw [upd_ne (ne_of_none (s3 b x e) np)]; exact s3 b x e
    · cases e : H p with
      | none => rfl
      | some o => have := s3 _ _ e; rw [np] at this; cases this
    · cases e : H l with
      | none => rfl
      | some o => have := s1 _ _ e; rw [nl] at this; cases this

theorem ok_law_spread (T : Tx K mg) : Fn P w K mg base 1 "_law_spread" 1 m_law_spread := fn_def (k := 0) T.d__law_spread sc_law_spread rfl (by decide) fun f cdv A outer s H E hr => (db_cons (ds_set 1 sc_law_spread.nd (de_bin od_mod (de_ty cd_int (by rfl) T.b_int (by decide +kernel) (da_cons (de_var 0) da_nil)) de_int))
    (db_cons (ds_set 2 sc_law_spread.nd de_int)
    (db_cons (ds_for PassesOwn.never rfl (di_range1 (by rfl) T.b_range (da_cons de_int da_nil)) (tg_name 3 sc_law_spread.nd) (db_cons (ds_set 1 sc_law_spread.nd (de_bin od_mod (de_ty cd_int (by rfl) T.b_int (by decide +kernel) (da_cons (de_bin od_add (de_bin od_add (de_bin od_mul (de_var 1) de_int) de_int) (de_var 3)) da_nil)) de_int))
    (db_one (ds_set 2 sc_law_spread.nd (de_bin od_add (de_bin od_mul (de_var 2) de_int) (de_var 1))))))
    (db_one (ds_ret (de_var 2))))))
theorem spread_int (c : Int) : ∃ r, m_law_spread [.v (.int c)] = .ret (.v (.int r)) := by
  have e1 : rng1 [.int 4] = .ret [.int 0, .int 1, .int 2, .int 3] := rfl
  have e2 : ∀ i j : Int, small j = true → dMul (.int i) (.int j) = .ret (.v (.int (i * j))) := fun i j h => by simp only [dMul, h, Bool.true_or, if_true]
  have e3 : ∀ i, dMod (.int i) (.int 2147483647) = .ret (.v (.int (i % 2147483647))) := fun i => by simp only [dMod]; exact if_pos (by decide)
  have e4 : ∀ i, dMul (.int i) (.int 48271) = .ret (.v (.int (i * 48271))) := fun i => e2 _ _ rfl
  have e5 : ∀ i, dMul (.int i) (.int 2147483647) = .ret (.v (.int (i * 2147483647))) := fun i => e2 _ _ rfl
  simp only [m_law_spread, fnM, sSeq, sSet, sFor, sForGo, gSet, sRet, retOf, mB, mCons, mNil, mBin, mC, mVar, iRngM, e1, e3, e4, e5, looks, look, T.bind, frz, stor, bInt, dAdd, List.foldr, List.append_nil, List.cons_append, List.nil_append, List.length_cons, List.length_nil, List.replicate, List.getElem?_cons_zero, List.getElem?_cons_succ, List.set, T.bind_ret]
  exact ⟨_, rfl⟩
theorem ok_law_draw (T : Tx K mg) : Fn P w K mg base 2 "_law_draw" 2 mDraw := by
  obtain ⟨a, fd, F, hm, b⟩ := T.d__law_draw.ex
  obtain ⟨aS, fdS, psS, GS, hmS, hkS, bS⟩ := (ok_law_spread (P := P) (w := w) (base := base) T).ex
  refine ⟨a, fd, ["pool", "many"], ?_, hm, F.kp, b⟩
  refine F.ok sc_law_draw (fun vs H Q E h => h.1) (fun cdv A outer s H vs Q E hr h => ?_)
  refine ⟨_, C8.pss_cut (ps_if (pw_and (pt_cmpR op_le (pe_ix ix_list (pv 0) pe_int (fun _ _ => rfl)) pe_int (nomark _)) (pw_and1 (pt_cmpR op_lt (pe_ix ix_list (pv 0) pe_int (fun _ _ => rfl)) (pe_callB call_len_seq (by rfl) T.b_len PySem.boot_len (pa_cons (pe_ix ix_list (pv 0) pe_int (fun _ _ => rfl)) pa_nil)) (nomark _)))).pt
      (pss_cons (ps_set (i := 2) sc_law_draw.nd rfl (.inl rfl) (pe_ix ix_list (pe_ix ix_list (pv 0) pe_int (fun _ _ => rfl)) (pe_ix ix_list (pv 0) pe_int (fun _ _ => rfl)) (fun _ _ => rfl)))
      (pss_cons (ps_asg (pe_op op_add (pe_ix ix_list (pv 0) pe_int (fun _ _ => rfl)) pe_int) (pg_sub (pv 0) pe_int set_list))
      (pss_cons (ps_asg (pv 2) (pg_sub (pv 0) pe_int set_list))
      (pss_one (ps_if (pt_cmpR op_lt (pv 2) pe_int (nomark _)) (pss_one (ps_asg (pe_call GS hr (by rfl) hmS hkS bS .nil pass0 (pa_cons (pv 2) pa_nil)) (pg_sub (pv 0) pe_int set_list))) pss_nil))))) pss_nil)
    (pss_cons (ps_asg (pe_op op_add (pe_ix ix_list (pv 0) pe_int (fun _ _ => rfl)) pe_int) (pg_sub (pv 0) pe_int set_list))
    (pss_cons (ps_if (pt_cmpR op_le (pe_ix ix_list (pv 0) pe_int (fun _ _ => rfl)) pe_int (nomark _))
      (pss_cons (ps_set (i := 3) sc_law_draw.nd rfl (.inl rfl) (pe_op op_mod (pe_callTy call_int1 (by rfl) T.b_int (by decide +kernel) (pa_cons (pe_op op_add (pe_op op_add (pe_op op_mul (pe_ix ix_list (pv 0) pe_int (fun _ _ => rfl)) pe_int) (pe_op op_mul (pe_ix ix_list (pv 0) pe_int (fun _ _ => rfl)) pe_int)) pe_int) pa_nil)) pe_int))
      (pss_cons (ps_set (i := 3) sc_law_draw.nd rfl (.inl rfl) (pe_op op_mod (pe_callTy call_int1 (by rfl) T.b_int (by decide +kernel) (pa_cons (pe_op op_add (pe_op op_mul (pv 3) pe_int) (pe_ix ix_list (pv 0) pe_int (fun _ _ => rfl))) pa_nil)) pe_int))
      (pss_one (ps_ret (pe_op op_mod (pe_op op_fdiv (pv 3) pe_int) (pv 1)))))) pss_nil)
    (pss_cons (ps_set (i := 4) sc_law_draw.nd rfl (.inl rfl) (pe_op op_mod (pe_callTy call_int1 (by rfl) T.b_int (by decide +kernel) (pa_cons (pe_ix ix_list (pv 0) pe_int (fun _ _ => rfl)) pa_nil)) (pv 1)))
    (pss_cons (ps_asg (pe_op op_fdiv (pe_ix ix_list (pv 0) pe_int (fun _ _ => rfl)) (pv 1)) (pg_sub (pv 0) pe_int set_list))
    (pss_one (ps_ret (pv 4))))))), ?_⟩
  obtain ⟨hl, F0, sl, hle, ha, hp1, h⟩ := h
  -- the arguments
  obtain ⟨p, n, sp, ns, i0, c0, n0, t0, rfl, hF, hP, hlen, hi0, hn0, hn1, hQ⟩ : ∃ (p : Addr) (n : Int) (sp : Addr) (ns : List Int) (i0 c0 n0 t0 : Int), vs = [.ref p, .int n] ∧ F0 p = none ∧ PL H p sp ns i0 c0 n0 t0 ∧ ns.length ≤ 63 ∧ 0 ≤ i0 ∧ 0 < n ∧ n ≤ 1000000000 ∧
      ∀ k H' i c n' t, 0 ≤ k → k < n → But p H H' → PL H' p sp ns i c n' t → 0 ≤ i → Q (.int k) H' := by
    cases ha with
    | nil => exact h.elim
    | val _ _ => exact h.elim
    | @pool p sp vs1 sl1 hF hP ha =>
      cases ha with
      | nil => exact h.elim
      | pool _ _ _ => exact h.elim
      | @val v d vs2 sl2 hv ha =>
        cases ha with
        | val _ _ => cases d <;> exact h.elim
        | pool _ _ _ => cases d <;> exact h.elim
        | nil =>
          cases hv with
          | int n =>
            have h : (if n ≤ 1000000000 then DL.T.draw n fun i => DL.T.ret (R.v (.int i)) else DL.T.stop).wp _ := h
            split at h
            · rename_i hn1
              obtain ⟨hn0, h⟩ := h
              obtain ⟨ns, i0, c0, n0, t0, e1, e2, e3, e4⟩ := hP
              refine ⟨p, n, sp, ns, i0, c0, n0, t0, rfl, hF, ⟨e1, hle _ _ e2, fun z => by rw [z, e2] at hF; cases hF⟩, e3, e4, hn0, hn1, fun k H' i c n' t h0 h1 hb hp hi => ?_⟩
              have hs : F0 sp = some (.lst (ns.map V.int)) := e2
              have ne : ∀ a o, F0 a = some o → a ≠ p := fun a o e z => by rw [z, hF] at e; cases e
              refine h k h0 h1 _ F0 H' ⟨Same.refl _, fun a o e => hb a o (hle _ _ e) (ne a o e), fun a o e no => hb a o e fun z => no 0 rfl (by rw [z]; rfl), fun _ _ _ => rfl, fun j a s' q1 q2 q3 => ?_⟩ (.v (.int k))
              have hj : j = 0 := by
                match j, q1 with
                | 0, _ => rfl
                | 1, q1 => cases q1
                | j + 2, q1 => simp at q1
              subst hj
              have ea : p = a := by injection (Option.some.inj q2)
              subst ea
              obtain ⟨ms, j0, d0, m0, u0, f1, f2, _⟩ := q3
              have es : s' = sp := by
                rw [e1] at f1
                injection f1 with f1; injection f1 with f1; injection f1 with f1 _; injection f1 with f1; exact f1.symm
              subst es
              exact ⟨ns, i, c, n', t, hp.1, hs, e3, hi⟩
            · exact h.elim
          | non => exact h.elim
          | bl _ => exact h.elim
          | str _ => exact h.elim
          | lst _ _ => exact h.elim
          | tup _ _ => exact h.elim
          | dic _ _ => exact h.elim
  clear h ha hle
  refine ⟨fun σ1 H1 => ∃ c2 i c n' t, σ1 = [some (.ref p), some (.int n), c2, none, none] ∧ But p H H1 ∧ PL H1 p sp ns i c n' t ∧ 0 ≤ i, ?_, fun σ1 H1 h1 => ?_⟩
  · -- the next cell, where there is one
    have st0 : L2.start ["pool", "many", "cell", "mixed", "value"] [V.ref p, .int n] = [some (.ref p), some (.int n), none, none, none] := rfl
    refine rd_at rfl hP.1 (atI_nat (j := 2) rfl) ⟨c0, 0, rfl, rfl, _, rfl, ?_⟩
    by_cases hc : c0 ≤ 0
    · rw [decide_eq_true hc]
      refine rd_at rfl hP.1 (atI_nat (j := 1) rfl) (rd_at rfl hP.1 (atI_nat (j := 0) rfl) ⟨sp, _, rfl, .inl (.inl (.inl hP.2.1)), i0, _, rfl, rfl, _, rfl, ?_⟩)
      by_cases hi : i0 < ((ns.map V.int).length : Nat)
      · rw [decide_eq_true hi]
        rw [List.length_map] at hi
        have hat : atI (ns.map V.int) i0 = some (.int (ns.getD i0.toNat 0)) := by
          have hlt : i0.toNat < ns.length := by omega
          have e : (ns.map V.int)[i0.toNat]? = some (.int (ns.getD i0.toNat 0)) := by
            rw [List.getElem?_map, List.getElem?_eq_getElem hlt, List.getD_eq_getElem?_getD, List.getElem?_eq_getElem hlt]; rfl
          have := atI_nat e
          rwa [Int.toNat_of_nonneg hi0] at this
        refine iteT ?_
        refine rd_at rfl hP.1 (atI_nat (j := 0) rfl) (rd_at rfl hP.1 (atI_nat (j := 1) rfl) ⟨sp, _, i0, _, rfl, rfl, .inl (.inl hP.2.1), hat, ?_⟩)
        generalize ns.getD i0.toNat 0 = cell at *
        have P1 := hP.put (i' := i0 + 1) (c' := c0) (n' := n0) (t' := t0)
        have P2 := P1.put (i' := i0 + 1) (c' := cell) (n' := n0) (t' := t0)
        refine rd_at rfl hP.1 (atI_nat (j := 1) rfl) ⟨i0, 1, rfl, rfl, .ref p, rfl, p, _, 1, 1, rfl, rfl, hP.1, rfl, ?_⟩
        refine ⟨.int cell, rfl, .ref p, rfl, p, _, 2, 2, rfl, rfl, P1.1, rfl, ?_⟩
        refine ⟨.int cell, rfl, cell, 1000000000000000000, rfl, rfl, _, rfl, ?_⟩
        have B2 : But p H _ := ((But.refl (p := p) (H := H)).put (o := HO.lst [.ref sp, .int (i0 + 1), .int c0, .int n0, .int t0])).put (o := HO.lst [.ref sp, .int (i0 + 1), .int cell, .int n0, .int t0])
        by_cases hb : cell < 1000000000000000000
        · rw [decide_eq_true hb]
          obtain ⟨r, hr'⟩ := spread_int cell
          refine ⟨.int cell, rfl, rfl, fun _ => none, [.v (.int cell)], fun _ _ e => (by cases e), .val (.int _) .nil, Nat.zero_le 1, ?_⟩
          rw [hr']
          refine fun v F' H' g r0 => ?_
          cases r0 with
          | v hv =>
            cases hv
            have e2 : Same _ H' := fun b o e => g.fr b o e fun j q => by
              match j, q with
              | 0, q => cases q
              | j + 1, q => simp at q
            refine ⟨.ref p, rfl, p, _, 2, 2, rfl, rfl, e2 _ _ P2.1, rfl, ?_⟩
            have P3 : PL H' p sp ns (i0 + 1) cell n0 t0 := ⟨e2 _ _ P2.1, e2 _ _ P2.2.1, P2.2.2⟩
            exact ⟨_, _, _, _, _, rfl, (B2.same e2).put, P3.put, by omega⟩
        · rw [decide_eq_false hb]
          exact ⟨_, _, _, _, _, rfl, B2, P2, by omega⟩
      · rw [decide_eq_false hi]
        exact ⟨_, _, _, _, _, rfl, But.refl, hP, hi0⟩
    · rw [decide_eq_false hc]
      exact ⟨_, _, _, _, _, rfl, But.refl, hP, hi0⟩
  · -- the draw
    obtain ⟨c2, i, c, n', t, rfl, B1, P1, hi⟩ := h1
    have P2 := P1.put (i' := i) (c' := c) (n' := n' + 1) (t' := t)
    refine rd_at rfl P1.1 (atI_nat (j := 3) rfl) ⟨n', 1, rfl, rfl, .ref p, rfl, p, _, 3, 3, rfl, rfl, P1.1, rfl, ?_⟩
    have B2 : But p H _ := B1.put (o := HO.lst [.ref sp, .int i, .int c, .int (n' + 1), .int t])
    refine rd_at rfl P2.1 (atI_nat (j := 2) rfl) ⟨c, 0, rfl, rfl, _, rfl, ?_⟩
    by_cases hc : c ≤ 0
    · rw [decide_eq_true hc]
      refine iteT ?_
      refine rd_at rfl P2.1 (atI_nat (j := 4) rfl) ⟨t, 48271, rfl, rfl, .inr (by decide), ?_⟩
      refine rd_at rfl P2.1 (atI_nat (j := 3) rfl) ⟨n' + 1, 69621, rfl, rfl, .inr (by decide), _, _, rfl, rfl, _, 1, rfl, rfl, .inl ⟨_, rfl, _, 2147483647, rfl, rfl, (show (0:Int) < 2147483647 by decide), ?_⟩⟩
      refine ⟨_, rfl, _, 16807, rfl, rfl, .inr (by decide), ?_⟩
      refine rd_at rfl P2.1 (atI_nat (j := 3) rfl) ⟨_, _, rfl, rfl, .inl ⟨_, rfl, _, 2147483629, rfl, rfl, (show (0:Int) < 2147483629 by decide), ?_⟩⟩
      refine ⟨_, rfl, _, 5, rfl, rfl, ⟨show (0:Int) < 5 by decide, show (5:Int) < 1073741824 by decide⟩, .int n, rfl, _, n, rfl, rfl, hn0, ?_⟩
      exact hQ _ _ _ _ _ _ (Int.emod_nonneg _ (by omega)) (Int.emod_lt_of_pos _ hn0) B2 P2 hi
    · rw [decide_eq_false hc]
      refine iteF ?_
      refine rd_at rfl P2.1 (atI_nat (j := 2) rfl) (.inl ⟨c, rfl, .int n, rfl, c, n, rfl, rfl, hn0, ?_⟩)
      refine rd_at rfl P2.1 (atI_nat (j := 2) rfl) ⟨.int n, rfl, c, n, rfl, rfl, ⟨hn0, by omega⟩, .ref p, rfl, p, _, 2, 2, rfl, rfl, P2.1, rfl, ?_⟩
      exact ⟨_, rfl, hQ _ _ _ _ _ _ (Int.emod_nonneg _ (by omega)) (Int.emod_lt_of_pos _ hn0) B2.put P2.put hi⟩

theorem ok_law_bent' (T : Tx K mg) : ∀ n : Nat, Fn P w K mg base (2 + n) "_law_bent" 2 (m_law_bent n)
  | 0 => fn_zero (ps := ["pool", "value"]) T.d__law_bent
  | n + 1 => by
    have R := ok_law_bent' T n
    exact fn_def (k := 2 + n) T.d__law_bent sc_law_bent rfl (by decide) fun f cdv A outer s H E hr => (db_cons (ds_if (dt_w (dw_and (dt_val (de_isi (by decide) (by rfl) T.b_isinstance (by rfl) T.b_tuple (by decide +kernel) (de_var 1))) (dw_and (dt_cmp od_gt (de_b cd_len (by rfl) T.b_len PySem.boot_len (da_cons (de_var 1) da_nil)) de_int) (dw_and1 (dt_cmp od_gt (de_call (ok_law_draw T) hr (lv_of (by decide)) (by rfl) (da_cons (de_var 0) (da_cons de_int da_nil)) (cnt_cons (cnt_cons cnt_nil))) de_int))))) (db_cons (ds_set 2 sc_law_bent.nd (de_call (ok_law_draw T) hr (lv_of (by decide)) (by rfl) (da_cons (de_var 0) (da_cons (de_b cd_len (by rfl) T.b_len PySem.boot_len (da_cons (de_var 1) da_nil)) da_nil)) (cnt_cons (cnt_cons cnt_nil))))
    (db_one (ds_ret (de_bin od_add (de_bin od_add (de_sl (de_var 1) do_none (do_some (de_var 2))) (de_tup (da_cons (de_call R hr (Nat.le_refl _) (by rfl) (da_cons (de_var 0) (da_cons (de_ix (hu150 hr) (de_var 1) (de_var 2)) da_nil)) (cnt_cons (cnt_cons cnt_nil))) da_nil))) (de_sl (de_var 1) (do_some (de_bin od_add (de_var 2) de_int)) do_none))))) db_nil)
    (db_cons (ds_set 3 sc_law_bent.nd (de_call (ok_law_draw T) hr (lv_of (by decide)) (by rfl) (da_cons (de_var 0) (da_cons de_int da_nil)) (cnt_cons (cnt_cons cnt_nil))))
    (db_cons (ds_if (dt_cmp (od_eq (hu150 hr)) (de_var 3) de_int) (db_one (ds_ret (de_ix (hu150 hr) (de_tup (da_cons de_str (da_cons de_bool (da_cons (de_tup da_nil) (da_cons de_int (da_cons (de_un ud_neg de_int) (da_cons de_none (da_cons de_bool (da_cons (de_lst da_nil) (da_cons de_str (da_cons de_int da_nil))))))))))) (de_call (ok_law_draw T) hr (lv_of (by decide)) (by rfl) (da_cons (de_var 0) (da_cons de_int da_nil)) (cnt_cons (cnt_cons cnt_nil)))))) db_nil)
    (db_cons (ds_if (dt_val (de_call (ok_law_is_integer T) hr (lv_of (by decide)) (by rfl) (da_cons (de_var 1) da_nil) (cnt_cons cnt_nil))) (db_one (ds_ret (de_bin od_add (de_var 1) (de_ix (hu150 hr) (de_tup (da_cons de_int (da_cons (de_un ud_neg de_int) (da_cons de_int (da_cons de_int da_nil))))) (de_call (ok_law_draw T) hr (lv_of (by decide)) (by rfl) (da_cons (de_var 0) (da_cons de_int da_nil)) (cnt_cons (cnt_cons cnt_nil))))))) db_nil)
    (db_cons (ds_if (dt_val (de_isi (by decide) (by rfl) T.b_isinstance (by rfl) T.b_str (by decide +kernel) (de_var 1))) (db_one (ds_ret (de_ix (hu150 hr) (de_tup (da_cons (de_bin od_add (de_var 1) de_str) (da_cons (de_sl (de_var 1) (do_some de_int) do_none) (da_cons (de_bin od_add (de_var 1) de_str) (da_cons (de_bin od_add (de_var 1) de_str) (da_cons (de_sl (de_var 1) do_none (do_some de_int)) da_nil)))))) (de_call (ok_law_draw T) hr (lv_of (by decide)) (by rfl) (da_cons (de_var 0) (da_cons de_int da_nil)) (cnt_cons (cnt_cons cnt_nil)))))) db_nil)
    (db_cons (ds_if (dt_w (dw_or (dt_not (dt_val (de_isi (by decide) (by rfl) T.b_isinstance (by rfl) T.b_tuple (by decide +kernel) (de_var 1)))) (dw_or1 (dt_cmp (od_eq (hu150 hr)) (de_b cd_len (by rfl) T.b_len PySem.boot_len (da_cons (de_var 1) da_nil)) de_int)))) (db_one (ds_ret (de_if (dt_cmp (od_lt (hu150 hr)) (de_var 3) de_int) (de_tup (da_cons (de_var 1) (da_cons de_int da_nil))) (de_tup da_nil)))) db_nil)
    (db_cons (ds_set 2 sc_law_bent.nd (de_call (ok_law_draw T) hr (lv_of (by decide)) (by rfl) (da_cons (de_var 0) (da_cons (de_b cd_len (by rfl) T.b_len PySem.boot_len (da_cons (de_var 1) da_nil)) da_nil)) (cnt_cons (cnt_cons cnt_nil))))
    (db_cons (ds_if (dt_cmp (od_lt (hu150 hr)) (de_var 3) de_int) (db_one (ds_ret (de_bin od_add (de_sl (de_var 1) do_none (do_some (de_var 2))) (de_sl (de_var 1) (do_some (de_bin od_add (de_var 2) de_int)) do_none)))) db_nil)
    (db_cons (ds_if (dt_cmp (od_lt (hu150 hr)) (de_var 3) de_int) (db_one (ds_ret (de_bin od_add (de_bin od_add (de_sl (de_var 1) do_none (do_some (de_var 2))) (de_tup (da_cons (de_ix (hu150 hr) (de_var 1) (de_var 2)) da_nil))) (de_sl (de_var 1) (do_some (de_var 2)) do_none)))) db_nil)
    (db_cons (ds_if (dt_cmp (od_eq (hu150 hr)) (de_var 3) de_int) (db_one (ds_ret (de_ty (cd_list rfl) (by rfl) T.b_list (by decide +kernel) (da_cons (de_var 1) da_nil)))) db_nil)
    (db_cons (ds_set 4 sc_law_bent.nd (de_call (ok_law_draw T) hr (lv_of (by decide)) (by rfl) (da_cons (de_var 0) (da_cons (de_b cd_len (by rfl) T.b_len PySem.boot_len (da_cons (de_var 1) da_nil)) da_nil)) (cnt_cons (cnt_cons cnt_nil))))
    (db_cons (ds_set 5 sc_law_bent.nd (de_ty (cd_list rfl) (by rfl) T.b_list (by decide +kernel) (da_cons (de_var 1) da_nil)))
    (db_cons (ds_put 5 (de_var 2) (de_ix (hu150 hr) (de_var 1) (de_var 4)))
    (db_cons (ds_put 5 (de_var 4) (de_ix (hu150 hr) (de_var 1) (de_var 2)))
    (db_one (ds_ret (de_ty cd_tuple (by rfl) T.b_tuple (by decide +kernel) (da_cons (de_var 5) da_nil))))))))))))))))))
theorem ok_law_bent (T : Tx K mg) : Fn P w K mg base 152 "_law_bent" 2 (m_law_bent 150) := ok_law_bent' T 150
theorem ok_law_booled' (T : Tx K mg) : ∀ n : Nat, Fn P w K mg base (1 + n) "_law_booled" 1 (m_law_booled n)
  | 0 => fn_zero (ps := ["value"]) T.d__law_booled
  | n + 1 => by
    have R := ok_law_booled' T n
    exact fn_def (k := 1 + n) T.d__law_booled sc_law_booled rfl (by decide) fun f cdv A outer s H E hr => (db_cons (ds_if (dt_val (de_isi (by decide) (by rfl) T.b_isinstance (by rfl) T.b_tuple (by decide +kernel) (de_var 0))) (db_one (ds_ret (de_ty cd_tuple (by rfl) T.b_tuple (by decide +kernel) (da_cons (de_lc (own := [("one", 1)]) rfl sc_law_booled.nd (di_seq (de_var 0)) (blkOk_by (by kernel_rfl)) (by decide) (gok_set 1) (fun _ _ _ _ _ => (tg_name 1 sc_law_booled.nd)) (fun _ _ _ _ _ => pts_yes) (fun _ _ _ _ _ => (de_call R hr (Nat.le_refl _) (by rfl) (da_cons (de_var 1) da_nil) (cnt_cons cnt_nil)))) da_nil)))) db_nil)
    (db_one (ds_ret (de_if (dt_w (dw_and (dt_val (de_call (ok_law_is_integer T) hr (lv_of (by decide)) (by rfl) (da_cons (de_var 0) da_nil) (cnt_cons cnt_nil))) (dw_and1 (dt_cmp (od_in (hu150 hr)) (de_var 0) (de_tup (da_cons de_int (da_cons de_int da_nil))))))) (de_cmp (od_eq (hu150 hr)) (de_var 0) de_int) (de_var 0)))))
theorem ok_law_booled (T : Tx K mg) : Fn P w K mg base 151 "_law_booled" 1 (m_law_booled 150) := ok_law_booled' T 150
theorem ok_law_listed' (T : Tx K mg) : ∀ n : Nat, Fn P w K mg base (0 + n) "_law_listed" 2 (m_law_listed n)
  | 0 => fn_zero (ps := ["value", "deep"]) T.d__law_listed
  | n + 1 => by
    have R := ok_law_listed' T n
    exact fn_def (k := 0 + n) T.d__law_listed sc_law_listed rfl (by decide) fun f cdv A outer s H E hr => (db_cons (ds_if (dt_not (dt_val (de_isi (by decide) (by rfl) T.b_isinstance (by rfl) T.b_tuple (by decide +kernel) (de_var 0)))) (db_one (ds_ret (de_var 0))) db_nil)
    (db_cons (ds_if (dt_cmp (od_eq (hu150 hr)) (de_var 1) de_int) (db_one (ds_ret (de_ty (cd_list rfl) (by rfl) T.b_list (by decide +kernel) (da_cons (de_var 0) da_nil)))) db_nil)
    (db_one (ds_ret (de_ty cd_tuple (by rfl) T.b_tuple (by decide +kernel) (da_cons (de_lc (own := [("one", 2)]) rfl sc_law_listed.nd (di_seq (de_var 0)) (blkOk_by (by kernel_rfl)) (by decide) (gok_set 2) (fun _ _ _ _ _ => (tg_name 2 sc_law_listed.nd)) (fun _ _ _ _ _ => pts_yes) (fun _ _ _ _ _ => (de_call R hr (Nat.le_refl _) (by rfl) (da_cons (de_var 2) (da_cons (de_bin od_sub (de_var 1) de_int) da_nil)) (cnt_cons (cnt_cons cnt_nil))))) da_nil))))))
theorem ok_law_listed (T : Tx K mg) : Fn P w K mg base 150 "_law_listed" 2 (m_law_listed 150) := ok_law_listed' T 150
theorem ok_law_odd_values (T : Tx K mg) : Fn P w K mg base 1 "_law_odd_values" 0 m_law_odd_values := fn_def (k := 0) T.d__law_odd_values sc_law_odd_values rfl (by decide) fun f cdv A outer s H E hr => (db_cons (ds_set 0 sc_law_odd_values.nd (de_tup da_nil))
    (db_cons (ds_for PassesOwn.never rfl (di_range1 (by rfl) T.b_range (da_cons de_int da_nil)) (tg_name 1 sc_law_odd_values.nd) (db_one (ds_set 0 sc_law_odd_values.nd (de_tup (da_cons (de_var 0) da_nil)))))
    (db_one (ds_ret (de_lst (da_cons (de_var 0) (da_cons (de_tup (da_cons de_str (da_cons (de_var 0) (da_cons (de_var 0) da_nil)))) (da_cons de_none (da_cons de_int (da_cons de_int (da_cons de_bool (da_cons de_bool (da_cons de_str (da_cons de_str (da_cons (de_tup da_nil) (da_cons (de_lst da_nil) (da_cons de_dic0 (da_cons (de_tup (da_cons (de_tup da_nil) da_nil)) (da_cons (de_tup (da_cons (de_tup da_nil) (da_cons (de_tup da_nil) da_nil))) (da_cons (de_tup (da_cons de_int da_nil)) (da_cons (de_tup (da_cons de_int (da_cons de_int da_nil))) (da_cons (de_tup (da_cons de_str da_nil)) (da_cons (de_tup (da_cons (de_lst da_nil) da_nil)) (da_cons de_dic1 (da_cons (de_tup (da_cons de_none da_nil)) (da_cons (de_tup (da_cons (de_tup (da_cons (de_tup da_nil) da_nil)) da_nil)) (da_cons (de_un ud_neg de_int) da_nil)))))))))))))))))))))))))))
theorem ok_law_is_up (T : Tx K mg) : Fn P w K mg base 1 "_law_is_up" 1 m_law_is_up := fn_def (k := 0) T.d__law_is_up sc_law_is_up rfl (by decide) fun f cdv A outer s H E hr => (db_one (ds_ret (de_cmp (od_eq (hu150 hr)) (de_b cd_len (by rfl) T.b_len PySem.boot_len (da_cons (de_lc (own := [("k", 1)]) rfl sc_law_is_up.nd (di_range2 (by rfl) T.b_range (da_cons de_int (da_cons (de_b cd_len (by rfl) T.b_len PySem.boot_len (da_cons (de_var 0) da_nil)) da_nil))) (blkOk_by (by kernel_rfl)) (by decide) (gok_set 1) (fun _ _ _ _ _ => (tg_name 1 sc_law_is_up.nd)) (fun _ _ _ _ _ => (pts_if (dt_not (dt_cmp (od_lt (hu150 hr)) (de_ix (hu150 hr) (de_var 0) (de_bin od_sub (de_var 1) de_int)) (de_ix (hu150 hr) (de_var 0) (de_var 1)))))) (fun _ _ _ _ _ => (de_var 1))) da_nil)) de_int)))
theorem ok_law_is_row (T : Tx K mg) : Fn P w K mg base 2 "_law_is_row" 4 m_law_is_row := fn_def (k := 1) T.d__law_is_row sc_law_is_row rfl (by decide) fun f cdv A outer s H E hr => (db_cons (ds_if (dt_w (dw_or (dt_not (dt_val (de_isi (by decide) (by rfl) T.b_isinstance (by rfl) T.b_tuple (by decide +kernel) (de_var 0)))) (dw_or1 (dt_w (dw_and (dt_cmp od_isnot (de_var 1) de_none) (dw_and1 (dt_cmp (od_ne (hu150 hr)) (de_b cd_len (by rfl) T.b_len PySem.boot_len (da_cons (de_var 0) da_nil)) (de_var 1)))))))) (db_one (ds_ret de_bool)) db_nil)
    (db_one (ds_ret (de_cmp (od_eq (hu150 hr)) (de_b cd_len (by rfl) T.b_len PySem.boot_len (da_cons (de_lc (own := [("one", 4)]) rfl sc_law_is_row.nd (di_seq (de_var 0)) (blkOk_by (by kernel_rfl)) (by decide) (gok_set 4) (fun _ _ _ _ _ => (tg_name 4 sc_law_is_row.nd)) (fun _ _ _ _ _ => (pts_if (dt_w (dw_or (dt_not (dt_val (de_call (ok_law_is_integer T) hr (by decide) (by rfl) (da_cons (de_var 4) da_nil) (cnt_cons cnt_nil)))) (dw_or (dt_cmp (od_lt (hu150 hr)) (de_var 4) (de_var 2)) (dw_or1 (dt_cmp od_gt (de_var 4) (de_var 3)))))))) (fun _ _ _ _ _ => (de_var 4))) da_nil)) de_int))))
theorem ok_law_is_number (T : Tx K mg) : Fn P w K mg base 2 "_law_is_number" 3 m_law_is_number := fn_def (k := 1) T.d__law_is_number sc_law_is_number rfl (by decide) fun f cdv A outer s H E hr => (db_one (ds_ret (de_and (de_call (ok_law_is_integer T) hr (by decide) (by rfl) (da_cons (de_var 0) da_nil) (cnt_cons cnt_nil)) (de_and (de_cmp od_le (de_var 1) (de_var 0)) (de_one (de_cmp od_le (de_var 0) (de_var 2)))))))
theorem ok_law_up_row (T : Tx K mg) : Fn P w K mg base 3 "_law_up_row" 3 m_law_up_row := fn_def (k := 2) T.d__law_up_row sc_law_up_row rfl (by decide) fun f cdv A outer s H E hr => (db_one (ds_ret (de_and (de_call (ok_law_is_row T) hr (by decide) (by rfl) (da_cons (de_var 0) (da_cons de_none (da_cons (de_var 1) (da_cons (de_var 2) da_nil)))) (cnt_cons (cnt_cons (cnt_cons (cnt_cons cnt_nil))))) (de_one (de_call (ok_law_is_up T) hr (by decide) (by rfl) (da_cons (de_var 0) da_nil) (cnt_cons cnt_nil))))))
theorem ok_law_word (T : Tx K mg) : Fn P w K mg base 1 "_law_word" 3 m_law_word := fn_def (k := 0) T.d__law_word sc_law_word rfl (by decide) fun f cdv A outer s H E hr => (db_one (ds_ret (de_and (de_isi (by decide) (by rfl) T.b_isinstance (by rfl) T.b_tuple (by decide +kernel) (de_var 0)) (de_and (de_cmp (od_eq (hu150 hr)) (de_b cd_len (by rfl) T.b_len PySem.boot_len (da_cons (de_var 0) da_nil)) (de_var 2)) (de_and (de_isi (by decide) (by rfl) T.b_isinstance (by rfl) T.b_str (by decide +kernel) (de_ix (hu150 hr) (de_var 0) de_int)) (de_one (de_cmp (od_eq (hu150 hr)) (de_ix (hu150 hr) (de_var 0) de_int) (de_var 1))))))))
theorem ok_law_pair_rows (T : Tx K mg) : Fn P w K mg base 3 "_law_pair_rows" 3 m_law_pair_rows := fn_def (k := 2) T.d__law_pair_rows sc_law_pair_rows rfl (by decide) fun f cdv A outer s H E hr => (db_cons (ds_if (dt_w (dw_or (dt_not (dt_val (de_isi (by decide) (by rfl) T.b_isinstance (by rfl) T.b_tuple (by decide +kernel) (de_var 0)))) (dw_or1 (dt_cmp od_gt (de_b cd_len (by rfl) T.b_len PySem.boot_len (da_cons (de_lc (own := [("one", 3)]) rfl sc_law_pair_rows.nd (di_seq (de_var 0)) (blkOk_by (by kernel_rfl)) (by decide) (gok_set 3) (fun _ _ _ _ _ => (tg_name 3 sc_law_pair_rows.nd)) (fun _ _ _ _ _ => (pts_if (dt_not (dt_val (de_call (ok_law_is_row T) hr (by decide) (by rfl) (da_cons (de_var 3) (da_cons de_int (da_cons de_int (da_cons de_int da_nil)))) (cnt_cons (cnt_cons (cnt_cons (cnt_cons cnt_nil))))))))) (fun _ _ _ _ _ => (de_var 3))) da_nil)) de_int)))) (db_one (ds_ret de_bool)) db_nil)
    (db_one (ds_ret (de_and (de_call (ok_law_is_up T) hr (by decide) (by rfl) (da_cons (de_var 0) da_nil) (cnt_cons cnt_nil)) (de_one (de_cmp (od_eq (hu150 hr)) (de_b cd_len (by rfl) T.b_len PySem.boot_len (da_cons (de_lc (own := [("one", 3)]) rfl sc_law_pair_rows.nd (di_seq (de_var 0)) (blkOk_by (by kernel_rfl)) (by decide) (gok_set 3) (fun _ _ _ _ _ => (tg_name 3 sc_law_pair_rows.nd)) (fun _ _ _ _ _ => (pts_if (dt_w (dw_or (dt_cmp od_ge (de_ix (hu150 hr) (de_var 3) de_int) (de_var 1)) (dw_or1 (dt_cmp od_ge (de_ix (hu150 hr) (de_var 3) de_int) (de_var 2))))))) (fun _ _ _ _ _ => (de_var 3))) da_nil)) de_int))))))
theorem ok_law_first (T : Tx K mg) : Fn P w K mg base 1 "_law_first" 1 m_law_first := fn_def (k := 0) T.d__law_first sc_law_first rfl (by decide) fun f cdv A outer s H E hr => (db_cons (ds_for PassesOwn.never rfl (di_seq (de_var 0)) (tg_name 1 sc_law_first.nd) (db_one (ds_if (dt_cmp od_isnot (de_ix (hu150 hr) (de_var 1) de_int) de_none) (db_one (ds_ret (de_var 1))) db_nil)))
    (db_one (ds_ret de_none)))
theorem ok_law_least (T : Tx K mg) : Fn P w K mg base 1 "_law_least" 1 m_law_least := fn_def (k := 0) T.d__law_least sc_law_least rfl (by decide) fun f cdv A outer s H E hr => (db_one (ds_ret (de_if (dt_cmp (od_ne (hu150 hr)) (de_var 0) (de_lst da_nil)) (de_b (cd_minL rfl) (by rfl) T.b_min (by decide +kernel) (da_cons (de_var 0) da_nil)) de_none)))
theorem ok_law_some (T : Tx K mg) : Fn P w K mg base 3 "_law_some" 3 m_law_some := fn_def (k := 2) T.d__law_some sc_law_some rfl (by decide) fun f cdv A outer s H E hr => (db_one (ds_ret (de_ty cd_tuple (by rfl) T.b_tuple (by decide +kernel) (da_cons (de_lc (own := [("k", 3)]) rfl sc_law_some.nd (di_range1 (by rfl) T.b_range (da_cons (de_var 1) da_nil)) (blkOk_by (by kernel_rfl)) (by decide) (gok_set 3) (fun _ _ _ _ _ => (tg_name 3 sc_law_some.nd)) (fun _ _ _ _ _ => (pts_if (dt_cmp (od_eq (hu150 hr)) (de_call (ok_law_draw T) hr (by decide) (by rfl) (da_cons (de_var 0) (da_cons (de_var 2) da_nil)) (cnt_cons (cnt_cons cnt_nil))) de_int))) (fun _ _ _ _ _ => (de_var 3))) da_nil))))
theorem ok_law_is_games (T : Tx K mg) : Fn P w K mg base 4 "_law_is_games" 1 m_law_is_games := fn_def (k := 3) T.d__law_is_games sc_law_is_games rfl (by decide) fun f cdv A outer s H E hr => (db_cons (ds_if (dt_w (dw_or (dt_not (dt_val (de_isi (by decide) (by rfl) T.b_isinstance (by rfl) T.b_tuple (by decide +kernel) (de_var 0)))) (dw_or (dt_cmp (od_ne (hu150 hr)) (de_b cd_len (by rfl) T.b_len PySem.boot_len (da_cons (de_var 0) da_nil)) de_int) (dw_or (dt_not (dt_val (de_call (ok_law_is_number T) hr (by decide) (by rfl) (da_cons (de_ix (hu150 hr) (de_var 0) de_int) (da_cons de_int (da_cons de_int da_nil))) (cnt_cons (cnt_cons (cnt_cons cnt_nil)))))) (dw_or (dt_not (dt_val (de_call (ok_law_pair_rows T) hr (by decide) (by rfl) (da_cons (de_ix (hu150 hr) (de_var 0) de_int) (da_cons (de_ix (hu150 hr) (de_var 0) de_int) (da_cons (de_ix (hu150 hr) (de_var 0) de_int) da_nil))) (cnt_cons (cnt_cons (cnt_cons cnt_nil)))))) (dw_or1 (dt_cmp od_gt (de_b cd_len (by rfl) T.b_len PySem.boot_len (da_cons (de_ix (hu150 hr) (de_var 0) de_int) da_nil)) de_int))))))) (db_one (ds_ret de_bool)) db_nil)
    (db_one (ds_ret (de_and (de_cmp (od_eq (hu150 hr)) (de_b cd_len (by rfl) T.b_len PySem.boot_len (da_cons (de_lc (own := [("one", 1)]) rfl sc_law_is_games.nd (di_seq (de_ix (hu150 hr) (de_var 0) de_int)) (blkOk_by (by kernel_rfl)) (by decide) (gok_set 1) (fun _ _ _ _ _ => (tg_name 1 sc_law_is_games.nd)) (fun _ _ _ _ _ => (pts_if (dt_cmp od_le (de_ix (hu150 hr) (de_var 1) de_int) (de_ix (hu150 hr) (de_var 1) de_int)))) (fun _ _ _ _ _ => (de_var 1))) da_nil)) de_int) (de_one (de_call (ok_law_is_number T) hr (by decide) (by rfl) (da_cons (de_ix (hu150 hr) (de_var 0) de_int) (da_cons de_int (da_cons (de_bin od_sub (de_ix (hu150 hr) (de_var 0) de_int) de_int) da_nil))) (cnt_cons (cnt_cons (cnt_cons cnt_nil)))))))))
theorem ok_law_q_games (T : Tx K mg) : Fn P w K mg base 3 "_law_q_games" 1 m_law_q_games := fn_def (k := 2) T.d__law_q_games sc_law_q_games rfl (by decide) fun f cdv A outer s H E hr => (db_cons (ds_set 1 sc_law_q_games.nd (de_bin od_add de_int (de_call (ok_law_draw T) hr (by decide) (by rfl) (da_cons (de_var 0) (da_cons (de_ix (hu150 hr) (de_tup (da_cons de_int (da_cons de_int da_nil))) (de_call (ok_law_draw T) hr (by decide) (by rfl) (da_cons (de_var 0) (da_cons de_int da_nil)) (cnt_cons (cnt_cons cnt_nil)))) da_nil)) (cnt_cons (cnt_cons cnt_nil)))))
    (db_cons (ds_set 2 sc_law_q_games.nd (de_lst da_nil))
    (db_cons (ds_for PassesOwn.never rfl (di_range1 (by rfl) T.b_range (da_cons (de_call (ok_law_draw T) hr (by decide) (by rfl) (da_cons (de_var 0) (da_cons (de_ix (hu150 hr) (de_tup (da_cons de_int (da_cons de_int da_nil))) (de_call (ok_law_draw T) hr (by decide) (by rfl) (da_cons (de_var 0) (da_cons de_int da_nil)) (cnt_cons (cnt_cons cnt_nil)))) da_nil)) (cnt_cons (cnt_cons cnt_nil))) da_nil)) (tg_name 3 sc_law_q_games.nd) (db_cons (ds_set 4 sc_law_q_games.nd (de_call (ok_law_draw T) hr (by decide) (by rfl) (da_cons (de_var 0) (da_cons (de_var 1) da_nil)) (cnt_cons (cnt_cons cnt_nil))))
    (db_one (ds_if (dt_cmp od_gt (de_var 4) de_int) (db_one (ds_app' 2 (de_tup (da_cons (de_var 4) (da_cons (de_call (ok_law_draw T) hr (by decide) (by rfl) (da_cons (de_var 0) (da_cons (de_var 4) da_nil)) (cnt_cons (cnt_cons cnt_nil))) da_nil))))) db_nil))))
    (db_one (ds_ret (de_tup (da_cons (de_var 1) (da_cons (de_ty cd_tuple (by rfl) T.b_tuple (by decide +kernel) (da_cons (de_ss rfl (Nat.lt_of_le_of_lt (Nat.add_le_add_left (by decide) _) (hu150 hr)) (by rfl) T.b_sorted (by rfl) T.b_set (de_var 2)) da_nil)) (da_cons (de_call (ok_law_draw T) hr (by decide) (by rfl) (da_cons (de_var 0) (da_cons (de_var 1) da_nil)) (cnt_cons (cnt_cons cnt_nil))) da_nil)))))))))
theorem ok_law_wins (T : Tx K mg) : FnM P w K mg base 40 "_law_wins" (atW winW 40) := by
  obtain ⟨a, fd, F, hm, b⟩ := T.d__law_wins.ex
  have key : ∀ (mv : DL.D) (n : Nat), FnOk P w K mg base CX0 n a fd ["position", "moves", "known"] (@spD (memoObj (winW mv)) K 3 (mMemo (winW mv) mv n)) := fun mv n => by
    letI : ShObj := memoObj (winW mv)
    induction n with
    | zero => exact ⟨fun vs H Q E h => h.1, fun A outer s H args us vs Q E _ _ _ _ h => by obtain ⟨_, _, _, _, _, _, h⟩ := h; exact (win_zero h).elim⟩
    | succ n ih =>
      have R : Fn P w K mg base n "_law_wins" 3 (mMemo (winW mv) mv n) := ⟨a, fd, _, ih, hm, F.kp, b⟩
      have B := fn_ok (P := P) (w := w) (K := K) (mg := mg) (base := base) (k := n) (n := 5) (mb := sMemo (winW mv (n + 1)) (mWinsE (mMemo (winW mv) mv n))) F sc_law_wins rfl (by decide) fun cdv A outer s H E hr => db_memo (winOk mv) (Nat.lt_of_le_of_lt (Nat.add_le_add_left (by decide) _) (hu150 hr)) (de_cmp od_gt (de_b cd_len (by rfl) T.b_len PySem.boot_len (da_cons (de_lc (own := [("a", 3), ("b", 4)]) rfl sc_law_wins.nd (di_seq (de_var 1)) (blkOk_by (by kernel_rfl)) (by decide) (gok_tup (gsok_cons (gok_set 3) (gsok_cons (gok_set 4) gsok_nil))) (fun _ _ _ _ _ => (tg_tup rfl (tgs_cons (tg_name 3 sc_law_wins.nd) (tgs_cons (tg_name 4 sc_law_wins.nd) tgs_nil)))) (fun _ _ _ _ _ => (pts_if (dt_w (dw_and (dt_cmp (od_eq (hu150 hr)) (de_var 3) (de_var 0)) (dw_and1 (dt_not (dt_val (de_call R hr (Nat.le_refl _) (by rfl) (da_cons (de_var 4) (da_cons (de_var 1) (da_cons (de_var 2) da_nil))) (cnt_cons (cnt_cons (cnt_cons cnt_nil))))))))))) (fun _ _ _ _ _ => (de_var 4))) da_nil)) de_int)
      exact B.imp fun vs H Q E ⟨hl, F0, sl, h1, h2, h3, h4⟩ => ⟨hl, F0, sl, h1, h2, h3, win_body h4⟩
  exact fnM_of rfl (fun mv => key mv 40) hm F.kp b
theorem ok_law_yes_games (T : Tx K mg) : Fn P w K mg base 41 "_law_yes_games" 1 m_law_yes_games := fn_def (k := 40) T.d__law_yes_games sc_law_yes_games rfl (by decide) fun f cdv A outer s H E hr => (db_one (ds_ret (de_callN (ok_law_wins T) hr (by decide) (by rfl) (de_ix (hu150 hr) (de_var 0) de_int) (de_ix (hu150 hr) (de_var 0) de_int))))
theorem ok_law_lost_faults (T : Tx K mg) : Fn P w K mg base 2 "_law_lost_faults" 3 m_law_lost_faults := fn_def (k := 1) T.d__law_lost_faults sc_law_lost_faults rfl (by decide) fun f cdv A outer s H E hr => (db_cons (by first | exact ds_setLc 3 (own := [("k", 5)]) rfl sc_law_lost_faults.nd rfl (sw_true rfl rfl rfl (by decide +kernel)) (di_range1 (by rfl) T.b_range (da_cons (de_b cd_len (by rfl) T.b_len PySem.boot_len (da_cons (de_var 0) da_nil)) da_nil)) (blkOk_by (by kernel_rfl)) (by decide) (gok_set 5) (fun _ _ _ _ _ => (tg_name 5 sc_law_lost_faults.nd)) (fun _ _ _ _ _ => pts_yes) (fun _ _ _ _ _ => (de_cmp od_gt (de_b cd_len (by rfl) T.b_len PySem.boot_len (da_cons (de_lc (own := [("one", 4)]) rfl sc_law_lost_faults.nd (di_seq (de_ix (hu150 hr) (de_var 2) (de_var 5))) (blkOk_by (by kernel_rfl)) (by decide) (gok_set 4) (fun _ _ _ _ _ => (tg_name 4 sc_law_lost_faults.nd)) (fun _ _ _ _ _ => (pts_if (dt_cmp (od_in (hu150 hr)) (de_var 4) (de_var 1)))) (fun _ _ _ _ _ => (de_var 4))) da_nil)) de_int)) | exact ds_set 3 sc_law_lost_faults.nd (de_lc (own := [("k", 5)]) rfl sc_law_lost_faults.nd (di_range1 (by rfl) T.b_range (da_cons (de_b cd_len (by rfl) T.b_len PySem.boot_len (da_cons (de_var 0) da_nil)) da_nil)) (blkOk_by (by kernel_rfl)) (by decide) (gok_set 5) (fun _ _ _ _ _ => (tg_name 5 sc_law_lost_faults.nd)) (fun _ _ _ _ _ => pts_yes) (fun _ _ _ _ _ => (de_cmp od_gt (de_b cd_len (by rfl) T.b_len PySem.boot_len (da_cons (de_lc (own := [("one", 4)]) rfl sc_law_lost_faults.nd (di_seq (de_ix (hu150 hr) (de_var 2) (de_var 5))) (blkOk_by (by kernel_rfl)) (by decide) (gok_set 4) (fun _ _ _ _ _ => (tg_name 4 sc_law_lost_faults.nd)) (fun _ _ _ _ _ => (pts_if (dt_cmp (od_in (hu150 hr)) (de_var 4) (de_var 1)))) (fun _ _ _ _ _ => (de_var 4))) da_nil)) de_int))))
    (db_cons (by first | exact ds_setLc 6 (own := [("k", 5)]) rfl sc_law_lost_faults.nd rfl (sw_true rfl rfl rfl (by decide +kernel)) (di_range1 (by rfl) T.b_range (da_cons (de_b cd_len (by rfl) T.b_len PySem.boot_len (da_cons (de_var 0) da_nil)) da_nil)) (blkOk_by (by kernel_rfl)) (by decide) (gok_set 5) (fun _ _ _ _ _ => (tg_name 5 sc_law_lost_faults.nd)) (fun _ _ _ _ _ => (pts_if (dt_w (dw_and (dt_cmp (od_in (hu150 hr)) (de_ix (hu150 hr) (de_var 0) (de_var 5)) (de_var 1)) (dw_and1 (dt_val (de_ix (hu150 hr) (de_var 3) (de_var 5)))))))) (fun _ _ _ _ _ => (de_var 5)) | exact ds_set 6 sc_law_lost_faults.nd (de_lc (own := [("k", 5)]) rfl sc_law_lost_faults.nd (di_range1 (by rfl) T.b_range (da_cons (de_b cd_len (by rfl) T.b_len PySem.boot_len (da_cons (de_var 0) da_nil)) da_nil)) (blkOk_by (by kernel_rfl)) (by decide) (gok_set 5) (fun _ _ _ _ _ => (tg_name 5 sc_law_lost_faults.nd)) (fun _ _ _ _ _ => (pts_if (dt_w (dw_and (dt_cmp (od_in (hu150 hr)) (de_ix (hu150 hr) (de_var 0) (de_var 5)) (de_var 1)) (dw_and1 (dt_val (de_ix (hu150 hr) (de_var 3) (de_var 5)))))))) (fun _ _ _ _ _ => (de_var 5))))
    (db_cons (by first | exact ds_setLc 7 (own := [("k", 5)]) rfl sc_law_lost_faults.nd rfl (sw_true rfl rfl rfl (by decide +kernel)) (di_range1 (by rfl) T.b_range (da_cons (de_b cd_len (by rfl) T.b_len PySem.boot_len (da_cons (de_var 0) da_nil)) da_nil)) (blkOk_by (by kernel_rfl)) (by decide) (gok_set 5) (fun _ _ _ _ _ => (tg_name 5 sc_law_lost_faults.nd)) (fun _ _ _ _ _ => (pts_if (dt_w (dw_and (dt_cmp (od_notin (hu150 hr)) (de_ix (hu150 hr) (de_var 0) (de_var 5)) (de_var 1)) (dw_and1 (dt_not (dt_val (de_ix (hu150 hr) (de_var 3) (de_var 5))))))))) (fun _ _ _ _ _ => (de_var 5)) | exact ds_set 7 sc_law_lost_faults.nd (de_lc (own := [("k", 5)]) rfl sc_law_lost_faults.nd (di_range1 (by rfl) T.b_range (da_cons (de_b cd_len (by rfl) T.b_len PySem.boot_len (da_cons (de_var 0) da_nil)) da_nil)) (blkOk_by (by kernel_rfl)) (by decide) (gok_set 5) (fun _ _ _ _ _ => (tg_name 5 sc_law_lost_faults.nd)) (fun _ _ _ _ _ => (pts_if (dt_w (dw_and (dt_cmp (od_notin (hu150 hr)) (de_ix (hu150 hr) (de_var 0) (de_var 5)) (de_var 1)) (dw_and1 (dt_not (dt_val (de_ix (hu150 hr) (de_var 3) (de_var 5))))))))) (fun _ _ _ _ _ => (de_var 5))))
    (db_one (ds_ret (de_call (ok_law_first T) hr (by decide) (by rfl) (da_cons (de_lst (da_cons (de_tup (da_cons de_str (da_cons (de_call (ok_law_least T) hr (by decide) (by rfl) (da_cons (de_var 6) da_nil) (cnt_cons cnt_nil)) da_nil))) (da_cons (de_tup (da_cons de_str (da_cons (de_call (ok_law_least T) hr (by decide) (by rfl) (da_cons (de_var 7) da_nil) (cnt_cons cnt_nil)) da_nil))) da_nil))) da_nil) (cnt_cons cnt_nil)))))))
theorem ok_law_f_games (T : Tx K mg) : Fn P w K mg base 4 "_law_f_games" 2 m_law_f_games := fn_def (k := 3) T.d__law_f_games sc_law_f_games rfl (by decide) fun f cdv A outer s H E hr => (db_cons (ds_if (dt_w (dw_or (dt_not (dt_w (dw_or (dt_val (de_call (ok_law_word T) hr (by decide) (by rfl) (da_cons (de_var 1) (da_cons de_str (da_cons de_int da_nil))) (cnt_cons (cnt_cons (cnt_cons cnt_nil))))) (dw_or1 (dt_val (de_call (ok_law_word T) hr (by decide) (by rfl) (da_cons (de_var 1) (da_cons de_str (da_cons de_int da_nil))) (cnt_cons (cnt_cons (cnt_cons cnt_nil))))))))) (dw_or1 (dt_not (dt_val (de_call (ok_law_up_row T) hr (by decide) (by rfl) (da_cons (de_ix (hu150 hr) (de_var 1) de_int) (da_cons de_int (da_cons (de_bin od_sub (de_ix (hu150 hr) (de_var 0) de_int) de_int) da_nil))) (cnt_cons (cnt_cons (cnt_cons cnt_nil))))))))) (db_one (ds_ret (de_tup (da_cons de_str (da_cons de_int da_nil))))) db_nil)
    (db_cons (ds_set 2 sc_law_f_games.nd (de_lrg rfl (by rfl) T.b_list (by rfl) T.b_range (de_ix (hu150 hr) (de_var 0) de_int)))
    (db_cons (by first | exact ds_setLc 3 (own := [("k", 6)]) rfl sc_law_f_games.nd rfl (sw_true rfl rfl rfl (by decide +kernel)) (di_seq (de_var 2)) (blkOk_by (by kernel_rfl)) (by decide) (gok_set 6) (fun _ _ _ _ _ => (tg_name 6 sc_law_f_games.nd)) (fun _ _ _ _ _ => pts_yes) (fun _ _ _ _ _ => (de_lc (own := [("a", 4), ("b", 5)]) rfl sc_law_f_games.nd (di_seq (de_ix (hu150 hr) (de_var 0) de_int)) (blkOk_by (by kernel_rfl)) (by decide) (gok_tup (gsok_cons (gok_set 4) (gsok_cons (gok_set 5) gsok_nil))) (fun _ _ _ _ _ => (tg_tup rfl (tgs_cons (tg_name 4 sc_law_f_games.nd) (tgs_cons (tg_name 5 sc_law_f_games.nd) tgs_nil)))) (fun _ _ _ _ _ => (pts_if (dt_cmp (od_eq (hu150 hr)) (de_var 4) (de_var 6)))) (fun _ _ _ _ _ => (de_var 5)))) | exact ds_set 3 sc_law_f_games.nd (de_lc (own := [("k", 6)]) rfl sc_law_f_games.nd (di_seq (de_var 2)) (blkOk_by (by kernel_rfl)) (by decide) (gok_set 6) (fun _ _ _ _ _ => (tg_name 6 sc_law_f_games.nd)) (fun _ _ _ _ _ => pts_yes) (fun _ _ _ _ _ => (de_lc (own := [("a", 4), ("b", 5)]) rfl sc_law_f_games.nd (di_seq (de_ix (hu150 hr) (de_var 0) de_int)) (blkOk_by (by kernel_rfl)) (by decide) (gok_tup (gsok_cons (gok_set 4) (gsok_cons (gok_set 5) gsok_nil))) (fun _ _ _ _ _ => (tg_tup rfl (tgs_cons (tg_name 4 sc_law_f_games.nd) (tgs_cons (tg_name 5 sc_law_f_games.nd) tgs_nil)))) (fun _ _ _ _ _ => (pts_if (dt_cmp (od_eq (hu150 hr)) (de_var 4) (de_var 6)))) (fun _ _ _ _ _ => (de_var 5))))))
    (db_cons (ds_set 7 sc_law_f_games.nd (de_call (ok_law_lost_faults T) hr (by decide) (by rfl) (da_cons (de_var 2) (da_cons (de_ix (hu150 hr) (de_var 1) de_int) (da_cons (de_var 3) da_nil))) (cnt_cons (cnt_cons (cnt_cons cnt_nil)))))
    (db_cons (ds_if (dt_cmp od_isnot (de_var 7) de_none) (db_one (ds_ret (de_var 7))) db_nil)
    (db_one (ds_ret (de_if (dt_cmp (od_ne (hu150 hr)) (de_cmp (od_in (hu150 hr)) (de_ix (hu150 hr) (de_var 0) de_int) (de_ix (hu150 hr) (de_var 1) de_int)) (de_cmp (od_eq (hu150 hr)) (de_ix (hu150 hr) (de_var 1) de_int) de_str)) (de_tup (da_cons de_str (da_cons (de_ix (hu150 hr) (de_var 0) de_int) da_nil))) de_none))))))))
theorem runs {fa : Addr} (T : Tx K mg) (hfa : mg "law" = some (.ref fa)) (hr : Room 153 callerA) (hm : (m_law ((List.replicate 11 Sl.u).set 1 (.o .pool))).wp fun p => p.1 = .rt (.v (.bool true))) : LawRuns P w K mg fa := by
  obtain ⟨a, fd, F, h0, b⟩ := T.d_law.ex
  obtain rfl : a = fa := by have e := h0.symm.trans hfa; cases e; rfl
  refine law_runs (k := 152) (n := 11) (i := 1) (mb := m_law) F sc_law b rfl (by decide) (by decide) hr (fun base X G cdv s H hr => ?_) hm
  obtain ⟨aP, fdP, GP, mP, kP, bP⟩ := ok_law_pool (P := P) (w := w) (base := base) T
  refine ⟨tVar 0, _, _, rfl, ps_set (i := 1) sc_law.nd rfl (by first | exact Or.inl rfl | exact Or.inr rfl) (pe_call GP (hr.mono (by decide)) (by rfl) mP kP bP .nil pass0 (pa_cons (pv 0) pa_nil)), ?_⟩
  exact (db_cons (ds_for PassesOwn.never rfl (di_range1 (by rfl) T.b_range (da_cons de_int da_nil)) (tg_name 2 sc_law.nd) (db_cons (ds_set 3 sc_law.nd (de_call (ok_law_q_games T) hr (by decide) (by rfl) (da_cons (de_var 1) da_nil) (cnt_cons cnt_nil)))
    (db_cons (ds_set 4 sc_law.nd (de_call (ok_law_yes_games T) hr (by decide) (by rfl) (da_cons (de_var 3) da_nil) (cnt_cons cnt_nil)))
    (db_cons (ds_set 5 sc_law.nd (de_call (ok_paper T) hr (by decide) (by rfl) (da_cons (de_var 3) da_nil) (cnt_cons cnt_nil)))
    (db_cons (ds_if (dt_w (dw_or (dt_cmp od_isnot (de_call (ok_law_f_games T) hr (by decide) (by rfl) (da_cons (de_var 3) (da_cons (de_var 5) da_nil)) (cnt_cons (cnt_cons cnt_nil))) de_none) (dw_or1 (dt_not (dt_val (de_call (ok_law_same T) hr (by decide) (by rfl) (da_cons (de_lst (da_cons (de_call (ok_holds T) hr (by decide) (by rfl) (da_cons (de_var 3) da_nil) (cnt_cons cnt_nil)) (da_cons (de_ix (hu150 hr) (de_var 5) de_int) da_nil))) (da_cons (de_lst (da_cons (de_var 4) (da_cons (de_if (dt_val (de_var 4)) de_str de_str) da_nil))) da_nil)) (cnt_cons (cnt_cons cnt_nil)))))))) (db_one (ds_ret de_bool)) db_nil)
    (db_cons (ds_set 6 sc_law.nd (de_call (ok_paper T) hr (by decide) (by rfl) (da_cons (de_call (ok_law_q_games T) hr (by decide) (by rfl) (da_cons (de_var 1) da_nil) (cnt_cons cnt_nil)) da_nil) (cnt_cons cnt_nil)))
    (db_cons (ds_set 7 sc_law.nd (de_lst (da_cons (de_var 5) (da_cons (de_var 6) (da_cons (de_ty (cd_list rfl) (by rfl) T.b_list (by decide +kernel) (da_cons (de_var 5) da_nil)) (da_cons (de_call (ok_law_listed T) hr (by decide) (by rfl) (da_cons (de_var 5) (da_cons de_int da_nil)) (cnt_cons (cnt_cons cnt_nil))) (da_cons (de_call (ok_law_listed T) hr (by decide) (by rfl) (da_cons (de_var 5) (da_cons de_int da_nil)) (cnt_cons (cnt_cons cnt_nil))) (da_cons (de_call (ok_law_booled T) hr (by decide) (by rfl) (da_cons (de_var 5) da_nil) (cnt_cons cnt_nil)) (da_cons (de_sl (de_var 5) do_none (do_some de_int)) (da_cons (de_bin od_add (de_var 5) (de_tup (da_cons (de_tup da_nil) da_nil))) (da_cons (de_bin od_add (de_tup (da_cons de_none da_nil)) (de_sl (de_var 5) (do_some de_int) do_none)) da_nil)))))))))))
    (db_cons (ds_set 7 sc_law.nd (de_bin od_add (de_var 7) (de_lst (da_cons (de_bin od_add (de_tup (da_cons de_str da_nil)) (de_sl (de_var 5) (do_some de_int) do_none)) (da_cons (de_bin od_add (de_tup (da_cons de_str da_nil)) (de_sl (de_var 5) (do_some de_int) do_none)) (da_cons (de_tup (da_cons de_str (da_cons (de_tup da_nil) da_nil))) (da_cons (de_tup (da_cons de_str (da_cons (de_tup da_nil) da_nil))) da_nil)))))))
    (db_cons (ds_for PassesOwn.never rfl (di_range1 (by rfl) T.b_range (da_cons de_int da_nil)) (tg_name 8 sc_law.nd) (db_one (ds_set 7 sc_law.nd (de_bin od_add (de_var 7) (de_lst (da_cons (de_tup (da_cons (de_ix (hu150 hr) (de_var 5) de_int) (da_cons (de_call (ok_law_some T) hr (by decide) (by rfl) (da_cons (de_var 1) (da_cons (de_ix (hu150 hr) (de_var 3) de_int) (da_cons de_int da_nil))) (cnt_cons (cnt_cons (cnt_cons cnt_nil)))) da_nil))) (da_cons (de_tup (da_cons de_str (da_cons (de_call (ok_law_some T) hr (by decide) (by rfl) (da_cons (de_var 1) (da_cons (de_ix (hu150 hr) (de_var 3) de_int) (da_cons de_int da_nil))) (cnt_cons (cnt_cons (cnt_cons cnt_nil)))) da_nil))) (da_cons (de_tup (da_cons (de_ix (hu150 hr) (de_var 5) de_int) (da_cons (de_sl (de_ix (hu150 hr) (de_var 5) de_int) (do_some de_int) do_none) da_nil))) da_nil))))))))
    (db_cons (ds_for PassesOwn.never rfl (di_seq (de_bin od_add (de_bin od_add (de_var 7) (de_call0 (ok_law_odd_values T) hr (by decide) (by rfl))) (de_lc (own := [("k", 8)]) rfl sc_law.nd (di_range1 (by rfl) T.b_range (da_cons de_int da_nil)) (blkOk_by (by kernel_rfl)) (by decide) (gok_set 8) (fun _ _ _ _ _ => (tg_name 8 sc_law.nd)) (fun _ _ _ _ _ => pts_yes) (fun _ _ _ _ _ => (de_call (ok_law_bent T) hr (by decide) (by rfl) (da_cons (de_var 1) (da_cons (de_var 5) da_nil)) (cnt_cons (cnt_cons cnt_nil))))))) (tg_name 9 sc_law.nd) (db_cons (ds_set 10 sc_law.nd (de_b (cd_repr rfl (hu200 hr)) (by rfl) T.b_repr (by decide +kernel) (da_cons (de_var 9) da_nil)))
    (db_one (ds_if (dt_w (dw_or (dt_not (dt_val (de_call (ok_law_same T) hr (by decide) (by rfl) (da_cons (de_call (ok_fault T) hr (by decide) (by rfl) (da_cons (de_var 3) (da_cons (de_var 9) da_nil)) (cnt_cons (cnt_cons cnt_nil))) (da_cons (de_call (ok_law_f_games T) hr (by decide) (by rfl) (da_cons (de_var 3) (da_cons (de_var 9) da_nil)) (cnt_cons (cnt_cons cnt_nil))) da_nil)) (cnt_cons (cnt_cons cnt_nil))))) (dw_or1 (dt_cmp (od_ne (hu150 hr)) (de_b (cd_repr rfl (hu200 hr)) (by rfl) T.b_repr (by decide +kernel) (da_cons (de_var 9) da_nil)) (de_var 10))))) (db_one (ds_ret de_bool)) db_nil))))
    (db_one (ds_for PassesOwn.never rfl (di_seq (de_bin od_add (de_bin od_add (de_lst (da_cons (de_var 3) (da_cons (de_if (dt_val (de_isi (by decide) (by rfl) T.b_isinstance (by rfl) T.b_tuple (by decide +kernel) (de_var 3))) (de_ty (cd_list rfl) (by rfl) T.b_list (by decide +kernel) (da_cons (de_var 3) da_nil)) (de_var 3)) (da_cons (de_call (ok_law_listed T) hr (by decide) (by rfl) (da_cons (de_var 3) (da_cons de_int da_nil)) (cnt_cons (cnt_cons cnt_nil))) (da_cons (de_call (ok_law_listed T) hr (by decide) (by rfl) (da_cons (de_var 3) (da_cons de_int da_nil)) (cnt_cons (cnt_cons cnt_nil))) (da_cons (de_call (ok_law_booled T) hr (by decide) (by rfl) (da_cons (de_var 3) da_nil) (cnt_cons cnt_nil)) da_nil)))))) (de_call0 (ok_law_odd_values T) hr (by decide) (by rfl))) (de_lc (own := [("k", 8)]) rfl sc_law.nd (di_range1 (by rfl) T.b_range (da_cons de_int da_nil)) (blkOk_by (by kernel_rfl)) (by decide) (gok_set 8) (fun _ _ _ _ _ => (tg_name 8 sc_law.nd)) (fun _ _ _ _ _ => pts_yes) (fun _ _ _ _ _ => (de_call (ok_law_bent T) hr (by decide) (by rfl) (da_cons (de_var 1) (da_cons (de_var 3) da_nil)) (cnt_cons (cnt_cons cnt_nil))))))) (tg_name 9 sc_law.nd) (db_one (ds_if (dt_not (dt_val (de_call (ok_law_same T) hr (by decide) (by rfl) (da_cons (de_call (ok_is_question T) hr (by decide) (by rfl) (da_cons (de_var 9) da_nil) (cnt_cons cnt_nil)) (da_cons (de_call (ok_law_is_games T) hr (by decide) (by rfl) (da_cons (de_var 9) da_nil) (cnt_cons cnt_nil)) da_nil)) (cnt_cons (cnt_cons cnt_nil))))) (db_one (ds_ret de_bool)) db_nil))))))))))))))
    (db_one (ds_ret de_bool)))
end
end K31

namespace K31
open PySem PySem.Spec PyProof.Rows L2 DL DL.Sc PL
def p_are_pairs (a0 a1 a2 : DL.D) : T Bool := (iteP (orP (notP (isi "tuple" (T.ret a0))) (notP (blt KB bAll (con (lvP (lcP tgV (fun pair_2 => (T.ret true)) (fun pair_2 => (bvP (call (ap4 h_row) (con (T.ret pair_2) (con (T.ret ((.int 2) : DL.D)) (con (T.ret ((.int 0) : DL.D)) (con (blt KV bMax (con (T.ret a1) (con (T.ret a2) (T.ret [])))) (T.ret [])))))))) (items (T.ret a0)))) (T.ret [])))))
    (T.ret false)
    (andP (call (ap1 p_rises) (con (T.ret a0) (T.ret []))) (blt KB bAll (con (lvP (lcP tgV (fun pair_4 => (T.ret true)) (fun pair_4 => (bvP (andP (bin KB dLt (bin KV dIx (T.ret pair_4) (T.ret ((.int 0) : DL.D))) (T.ret a1)) (bin KB dLt (bin KV dIx (T.ret pair_4) (T.ret ((.int 1) : DL.D))) (T.ret a2))))) (items (T.ret a0)))) (T.ret [])))))
theorem pf_are_pairs (a0 a1 a2 : DL.D) : Rl KB.rel (p_are_pairs a0 a1 a2) (m_are_pairs [.v a0, .v a1, .v a2]) := fn_of (π := [.v a0, .v a1, .v a2, .any]) (n := 4) (sl := [.v a0, .v a1, .v a2]) (κ := KB) (pr_ifL (pt_or (pt_not (pt_of (pe_isi (po_s (ps_v (pe_var rfl)))))) (pt_not (pt_of (pe_b (pa_cons (po_s (ps_of (pe_lc (pi_seq (ps_v (pe_var rfl))) (pg_set rfl) (fun pair_2 => pt_yes) (fun pair_2 => (ps_of (pe_call (rl4 hf_row) (pas_cons (ps_v (pe_var rfl)) (pas_cons (ps_v pe_c) (pas_cons (ps_v pe_c) (pas_cons (ps_v (pe_b (pa_cons (po_s (ps_v (pe_var rfl))) (pa_cons (po_s (ps_v (pe_var rfl))) pa_nil)))) pas_nil))))))) (fun _ => rfl)))) pa_nil))))) (pr_ret pe_cb) (pr_ret (pe_and (pe_call (rl1 pf_rises) (pas_cons (ps_v (pe_var rfl)) pas_nil)) (pe_b (pa_cons (po_s (ps_of (pe_lc (pi_seq (ps_v (pe_var rfl))) (pg_set rfl) (fun pair_4 => pt_yes) (fun pair_4 => (ps_of (pe_and (pe_bin (po_s (ps_v (pe_bin (po_s (ps_v (pe_var rfl))) (po_s (ps_v pe_c))))) (po_s (ps_v (pe_var rfl)))) (pe_bin (po_s (ps_v (pe_bin (po_s (ps_v (pe_var rfl))) (po_s (ps_v pe_c))))) (po_s (ps_v (pe_var rfl))))))) (fun _ => rfl)))) pa_nil))))) (.cons (.v _) (.cons (.v _) (.cons (.v _) (.cons .anyU .nil))))
def p_is_question (a0 : DL.D) : T Bool := (iteP (orP (notP (isi "tuple" (T.ret a0))) (orP (bin KB dNe (blt KV bLen (con (T.ret a0) (T.ret []))) (T.ret ((.int 3) : DL.D))) (notP (call (ap3 h_from) (con (bin KV dIx (T.ret a0) (T.ret ((.int 0) : DL.D))) (con (T.ret ((.int 1) : DL.D)) (con (T.ret ((.int 30) : DL.D)) (T.ret []))))))))
    (T.ret false)
    (iteP (orP (notP (call (ap3 p_are_pairs) (con (bin KV dIx (T.ret a0) (T.ret ((.int 1) : DL.D))) (con (bin KV dIx (T.ret a0) (T.ret ((.int 0) : DL.D))) (con (bin KV dIx (T.ret a0) (T.ret ((.int 0) : DL.D))) (T.ret [])))))) (bin KB dGt (blt KV bLen (con (bin KV dIx (T.ret a0) (T.ret ((.int 1) : DL.D))) (T.ret []))) (T.ret ((.int 200) : DL.D))))
    (T.ret false)
    (andP (blt KB bAll (con (lvP (lcP (tgT 2 (tgC tgV (tgO tgV))) (fun s1 => (T.ret true)) (fun s1 => (bvP (bin KB dGt (T.ret s1.1) (T.ret s1.2)))) (items (bin KV dIx (T.ret a0) (T.ret ((.int 1) : DL.D)))))) (T.ret []))) (call (ap3 h_from) (con (bin KV dIx (T.ret a0) (T.ret ((.int 2) : DL.D))) (con (T.ret ((.int 0) : DL.D)) (con (bin KV dSub (bin KV dIx (T.ret a0) (T.ret ((.int 0) : DL.D))) (T.ret ((.int 1) : DL.D))) (T.ret []))))))))
theorem pf_is_question (a0 : DL.D) : Rl KB.rel (p_is_question a0) (m_is_question [.v a0]) := fn_of (π := [.v a0, .any, .any]) (n := 3) (sl := [.v a0]) (κ := KB) (pr_ifL (pt_or (pt_not (pt_of (pe_isi (po_s (ps_v (pe_var rfl)))))) (pt_or (pt_of (pe_bin (po_s (ps_v (pe_b (pa_cons (po_s (ps_v (pe_var rfl))) pa_nil)))) (po_s (ps_v pe_c)))) (pt_not (pt_of (pe_call (rl3 hf_from) (pas_cons (ps_v (pe_bin (po_s (ps_v (pe_var rfl))) (po_s (ps_v pe_c)))) (pas_cons (ps_v pe_c) (pas_cons (ps_v pe_c) pas_nil)))))))) (pr_ret pe_cb) (pr_ifL (pt_or (pt_not (pt_of (pe_call (rl3 pf_are_pairs) (pas_cons (ps_v (pe_bin (po_s (ps_v (pe_var rfl))) (po_s (ps_v pe_c)))) (pas_cons (ps_v (pe_bin (po_s (ps_v (pe_var rfl))) (po_s (ps_v pe_c)))) (pas_cons (ps_v (pe_bin (po_s (ps_v (pe_var rfl))) (po_s (ps_v pe_c)))) pas_nil)))))) (pt_of (pe_bin (po_s (ps_v (pe_b (pa_cons (po_s (ps_v (pe_bin (po_s (ps_v (pe_var rfl))) (po_s (ps_v pe_c))))) pa_nil)))) (po_s (ps_v pe_c))))) (pr_ret pe_cb) (pr_ret (pe_and (pe_b (pa_cons (po_s (ps_of (pe_lc (pi_seq (ps_v (pe_bin (po_s (ps_v (pe_var rfl))) (po_s (ps_v pe_c))))) (pg_tup (pgs_cons (pg_set rfl) (fun _ => (pgs_one (pg_set rfl))))) (fun s1 => pt_yes) (fun s1 => (ps_of (pe_bin (po_s (ps_v (pe_var rfl))) (po_s (ps_v (pe_var rfl)))))) (fun _ => rfl)))) pa_nil)) (pe_call (rl3 hf_from) (pas_cons (ps_v (pe_bin (po_s (ps_v (pe_var rfl))) (po_s (ps_v pe_c)))) (pas_cons (ps_v pe_c) (pas_cons (ps_v (pe_bin (po_s (ps_v (pe_bin (po_s (ps_v (pe_var rfl))) (po_s (ps_v pe_c))))) (po_s (ps_v pe_c)))) pas_nil)))))))) (.cons (.v _) (.cons .anyU (.cons .anyU .nil)))
def p_lost_positions (a0 : DL.D) : T (List DL.D) := (T.bind (lst (T.ret [])) fun found_1 =>
    (T.bind (T.bind (T.bind (con (bin KV dIx (T.ret a0) (T.ret ((.int 0) : DL.D))) (T.ret [])) rng1) fun ds => forN (S := (List DL.D)) tgV (fun s2 position_5 =>
      (T.bind (iteP (notP (blt KB bAny (con (lvP (lcP (tgT 2 (tgC tgV (tgO tgV))) (fun s6 => (T.ret true)) (fun s6 => (bvP (andP (bin KB dEq (T.ret s6.1) (T.ret position_5)) (bin KB dIn (T.ret s6.2) (T.ret (.list s2 : DL.D)))))) (items (bin KV dIx (T.ret a0) (T.ret ((.int 1) : DL.D)))))) (T.ret [])))) (T.bind (appP s2 (T.ret position_5)) fun found_7 => T.ret found_7) (T.ret s2)) fun s8 => T.ret s8)) found_1 ds) fun s2 =>
    (T.ret s2)))
theorem pf_lost_positions (a0 : DL.D) : Rl KL.rel (p_lost_positions a0) (m_lost_positions [.v a0]) := fn_of (π := [.v a0, .any, .any, .any, .any]) (n := 5) (sl := [.v a0]) (κ := KL) (pr_seq (pn_set (pe_lst pas_nil) rfl) (fun found_1 => (pr_seq (pn_for (po := (fun (s2 : (List DL.D)) => [.v a0, .l s2, .any, .any, .any])) found_1 (pi_rng (pa_cons (po_s (ps_v (pe_bin (po_s (ps_v (pe_var rfl))) (po_s (ps_v pe_c))))) pa_nil)) (by exact (.same (.same (.same (.same (.same .nil)))))) (fun s2 => (pg_set rfl)) (fun s2 position_5 => (pn_end (fun s8 => s8) (pn_if (po := (fun (s8 : (List DL.D)) => [.v a0, .l s8, .v position_5, .any, .any])) (pt_not (pt_of (pe_b (pa_cons (po_s (ps_of (pe_lc (pi_seq (ps_v (pe_bin (po_s (ps_v (pe_var rfl))) (po_s (ps_v pe_c))))) (pg_tup (pgs_cons (pg_set rfl) (fun _ => (pgs_one (pg_set rfl))))) (fun s6 => pt_yes) (fun s6 => (ps_of (pe_and (pe_bin (po_s (ps_v (pe_var rfl))) (po_s (ps_v (pe_var rfl)))) (pe_bin (po_s (ps_v (pe_var rfl))) (po_l rfl))))) (fun _ => rfl)))) pa_nil)))) (pn_end (fun found_7 => found_7) (pn_app rfl (ps_v (pe_var rfl))) (fun found_7 => (by exact (.same (.same (.same (.same (.same .nil)))))))) (pn_nextE (s := s2) (by exact (.same (.same (.same (.same (.same .nil)))))))) (fun s8 => (by exact (.same (.same (.any rfl (.same (.same .nil)))))))))) (fun s2 => (pr_retL rfl))))) (.cons (.v _) (.cons .anyU (.cons .anyU (.cons .anyU (.cons .anyU .nil)))))
def p_paper (a0 : DL.D) : T DL.D := (T.bind (blt KV bTuple (con (lvP (call (ap1 p_lost_positions) (con (T.ret a0) (T.ret [])))) (T.ret []))) fun found_1 =>
    (iteP (bin KB dIn (bin KV dIx (T.ret a0) (T.ret ((.int 2) : DL.D))) (T.ret found_1)) (tup (con (T.ret ((.str "loses") : DL.D)) (con (T.ret found_1) (T.ret [])))) (tup (con (T.ret ((.str "wins") : DL.D)) (con (T.ret found_1) (T.ret []))))))
theorem pf_paper (a0 : DL.D) : Rl KV.rel (p_paper a0) (m_paper [.v a0]) := fn_of (π := [.v a0, .any]) (n := 2) (sl := [.v a0]) (κ := KV) (pr_seq (pn_set (pe_b (pa_cons (po_s (ps_of (pe_call (rl1 pf_lost_positions) (pas_cons (ps_v (pe_var rfl)) pas_nil)))) pa_nil)) rfl) (fun found_1 => (pr_ret (pe_if (pt_of (pe_bin (po_s (ps_v (pe_bin (po_s (ps_v (pe_var rfl))) (po_s (ps_v pe_c))))) (po_s (ps_v (pe_var rfl))))) (pe_tup (pas_cons (ps_v pe_c) (pas_cons (ps_v (pe_var rfl)) pas_nil))) (pe_tup (pas_cons (ps_v pe_c) (pas_cons (ps_v (pe_var rfl)) pas_nil))))))) (.cons (.v _) (.cons .anyU .nil))
def p_holds (a0 : DL.D) : T Bool := (bin KB dNotIn (bin KV dIx (T.ret a0) (T.ret ((.int 2) : DL.D))) (lvP (call (ap1 p_lost_positions) (con (T.ret a0) (T.ret [])))))
theorem pf_holds (a0 : DL.D) : Rl KB.rel (p_holds a0) (m_holds [.v a0]) := fn_of (π := [.v a0]) (n := 1) (sl := [.v a0]) (κ := KB) (pr_ret (pe_bin (po_s (ps_v (pe_bin (po_s (ps_v (pe_var rfl))) (po_s (ps_v pe_c))))) (po_s (ps_of (pe_call (rl1 pf_lost_positions) (pas_cons (ps_v (pe_var rfl)) pas_nil)))))) (.cons (.v _) .nil)
def p_leads_into (a0 a1 a2 : DL.D) : T Bool := (blt KB bAny (con (lvP (lcP (tgT 2 (tgC tgV (tgO tgV))) (fun s1 => (T.ret true)) (fun s1 => (bvP (andP (bin KB dEq (T.ret s1.1) (T.ret a2)) (bin KB dIn (T.ret s1.2) (T.ret a1))))) (items (bin KV dIx (T.ret a0) (T.ret ((.int 1) : DL.D)))))) (T.ret [])))
theorem pf_leads_into (a0 a1 a2 : DL.D) : Rl KB.rel (p_leads_into a0 a1 a2) (m_leads_into [.v a0, .v a1, .v a2]) := fn_of (π := [.v a0, .v a1, .v a2, .any, .any]) (n := 5) (sl := [.v a0, .v a1, .v a2]) (κ := KB) (pr_ret (pe_b (pa_cons (po_s (ps_of (pe_lc (pi_seq (ps_v (pe_bin (po_s (ps_v (pe_var rfl))) (po_s (ps_v pe_c))))) (pg_tup (pgs_cons (pg_set rfl) (fun _ => (pgs_one (pg_set rfl))))) (fun s1 => pt_yes) (fun s1 => (ps_of (pe_and (pe_bin (po_s (ps_v (pe_var rfl))) (po_s (ps_v (pe_var rfl)))) (pe_bin (po_s (ps_v (pe_var rfl))) (po_s (ps_v (pe_var rfl))))))) (fun _ => rfl)))) pa_nil))) (.cons (.v _) (.cons (.v _) (.cons (.v _) (.cons .anyU (.cons .anyU .nil)))))
def p_set_fault (a0 a1 a2 : DL.D) : T DL.D := (T.bind (rgP (bin KV dIx (T.ret a0) (T.ret ((.int 0) : DL.D)))) fun every_1 =>
    (T.bind (call (ap1 p_first_true) (con (lvP (lcP tgV (fun k_4 => (T.ret true)) (fun k_4 => (bvP (andP (bin KB dIn (T.ret k_4) (T.ret a1)) (call (ap3 p_leads_into) (con (T.ret a0) (con (T.ret a1) (con (T.ret k_4) (T.ret [])))))))) (rgI 0 every_1))) (T.ret []))) fun inner_2 =>
    (T.bind (call (ap1 p_first_true) (con (lvP (lcP tgV (fun k_7 => (T.ret true)) (fun k_7 => (bvP (andP (bin KB dNotIn (T.ret k_7) (T.ret a1)) (notP (call (ap3 p_leads_into) (con (T.ret a0) (con (T.ret a1) (con (T.ret k_7) (T.ret []))))))))) (rgI 0 every_1))) (T.ret []))) fun outer_5 =>
    (T.bind (iteP (bin KB dNe (bvP (bin KB dIn (bin KV dIx (T.ret a0) (T.ret ((.int 2) : DL.D))) (T.ret a1))) (T.ret a2)) (bin KV dIx (T.ret a0) (T.ret ((.int 2) : DL.D))) (T.ret (.none : DL.D))) fun start_8 =>
    (call (ap1 p_first_of) (con (lvP (lst (con (call (ap2 p_fault_at) (con (T.ret ((.str "inner") : DL.D)) (con (T.ret inner_2) (T.ret [])))) (con (call (ap2 p_fault_at) (con (T.ret ((.str "outer") : DL.D)) (con (T.ret outer_5) (T.ret [])))) (con (call (ap2 p_fault_at) (con (T.ret ((.str "start") : DL.D)) (con (T.ret start_8) (T.ret [])))) (T.ret [])))))) (T.ret [])))))))
theorem pf_set_fault (a0 a1 a2 : DL.D) : Rl KV.rel (p_set_fault a0 a1 a2) (m_set_fault [.v a0, .v a1, .v a2]) := fn_of (π := [.v a0, .v a1, .v a2, .any, .any, .any, .any, .any]) (n := 8) (sl := [.v a0, .v a1, .v a2]) (κ := KV) (pr_seq (pn_setRg (po_s (ps_v (pe_bin (po_s (ps_v (pe_var rfl))) (po_s (ps_v pe_c))))) rfl) (fun every_1 => (pr_seq (pn_set (pe_call (rl1 pf_first_true) (pas_cons (ps_of (pe_lc (pi_rgv rfl) (pg_set rfl) (fun k_4 => pt_yes) (fun k_4 => (ps_of (pe_and (pe_bin (po_s (ps_v (pe_var rfl))) (po_s (ps_v (pe_var rfl)))) (pe_call (rl3 pf_leads_into) (pas_cons (ps_v (pe_var rfl)) (pas_cons (ps_v (pe_var rfl)) (pas_cons (ps_v (pe_var rfl)) pas_nil))))))) (fun _ => rfl))) pas_nil)) rfl) (fun inner_2 => (pr_seq (pn_set (pe_call (rl1 pf_first_true) (pas_cons (ps_of (pe_lc (pi_rgv rfl) (pg_set rfl) (fun k_7 => pt_yes) (fun k_7 => (ps_of (pe_and (pe_bin (po_s (ps_v (pe_var rfl))) (po_s (ps_v (pe_var rfl)))) (pe_not (pe_call (rl3 pf_leads_into) (pas_cons (ps_v (pe_var rfl)) (pas_cons (ps_v (pe_var rfl)) (pas_cons (ps_v (pe_var rfl)) pas_nil)))))))) (fun _ => rfl))) pas_nil)) rfl) (fun outer_5 => (pr_seq (pn_set (pe_if (pt_of (pe_bin (po_s (ps_of (pe_bin (po_s (ps_v (pe_bin (po_s (ps_v (pe_var rfl))) (po_s (ps_v pe_c))))) (po_s (ps_v (pe_var rfl)))))) (po_s (ps_v (pe_var rfl))))) (pe_bin (po_s (ps_v (pe_var rfl))) (po_s (ps_v pe_c))) pe_c) rfl) (fun start_8 => (pr_ret (pe_call (rl1 pf_first_of) (pas_cons (ps_of (pe_lst (pas_cons (ps_v (pe_call (rl2 pf_fault_at) (pas_cons (ps_v pe_c) (pas_cons (ps_v (pe_var rfl)) pas_nil)))) (pas_cons (ps_v (pe_call (rl2 pf_fault_at) (pas_cons (ps_v pe_c) (pas_cons (ps_v (pe_var rfl)) pas_nil)))) (pas_cons (ps_v (pe_call (rl2 pf_fault_at) (pas_cons (ps_v pe_c) (pas_cons (ps_v (pe_var rfl)) pas_nil)))) pas_nil))))) pas_nil))))))))))) (.cons (.v _) (.cons (.v _) (.cons (.v _) (.cons .anyU (.cons .anyU (.cons .anyU (.cons .anyU (.cons .anyU .nil))))))))
def p_fault (a0 a1 : DL.D) : T DL.D := (iteP (andP (notP (call (ap3 h_named) (con (T.ret a1) (con (T.ret ((.str "wins") : DL.D)) (con (T.ret ((.int 2) : DL.D)) (T.ret [])))))) (notP (call (ap3 h_named) (con (T.ret a1) (con (T.ret ((.str "loses") : DL.D)) (con (T.ret ((.int 2) : DL.D)) (T.ret [])))))))
    (T.ret ((.tuple [(.str "form"), (.int 0)]) : DL.D))
    (iteP (notP (call (ap3 p_is_rising_row) (con (bin KV dIx (T.ret a1) (T.ret ((.int 1) : DL.D))) (con (T.ret ((.int 0) : DL.D)) (con (bin KV dSub (bin KV dIx (T.ret a0) (T.ret ((.int 0) : DL.D))) (T.ret ((.int 1) : DL.D))) (T.ret []))))))
    (T.ret ((.tuple [(.str "form"), (.int 0)]) : DL.D))
    (call (ap3 p_set_fault) (con (T.ret a0) (con (bin KV dIx (T.ret a1) (T.ret ((.int 1) : DL.D))) (con (bvP (bin KB dEq (bin KV dIx (T.ret a1) (T.ret ((.int 0) : DL.D))) (T.ret ((.str "loses") : DL.D)))) (T.ret [])))))))
theorem pf_fault (a0 a1 : DL.D) : Rl KV.rel (p_fault a0 a1) (m_fault [.v a0, .v a1]) := fn_of (π := [.v a0, .v a1]) (n := 2) (sl := [.v a0, .v a1]) (κ := KV) (pr_ifL (pt_and (pt_not (pt_of (pe_call (rl3 hf_named) (pas_cons (ps_v (pe_var rfl)) (pas_cons (ps_v pe_c) (pas_cons (ps_v pe_c) pas_nil)))))) (pt_not (pt_of (pe_call (rl3 hf_named) (pas_cons (ps_v (pe_var rfl)) (pas_cons (ps_v pe_c) (pas_cons (ps_v pe_c) pas_nil))))))) (pr_ret pe_c) (pr_ifL (pt_not (pt_of (pe_call (rl3 pf_is_rising_row) (pas_cons (ps_v (pe_bin (po_s (ps_v (pe_var rfl))) (po_s (ps_v pe_c)))) (pas_cons (ps_v pe_c) (pas_cons (ps_v (pe_bin (po_s (ps_v (pe_bin (po_s (ps_v (pe_var rfl))) (po_s (ps_v pe_c))))) (po_s (ps_v pe_c)))) pas_nil)))))) (pr_ret pe_c) (pr_ret (pe_call (rl3 pf_set_fault) (pas_cons (ps_v (pe_var rfl)) (pas_cons (ps_v (pe_bin (po_s (ps_v (pe_var rfl))) (po_s (ps_v pe_c)))) (pas_cons (ps_of (pe_bin (po_s (ps_v (pe_bin (po_s (ps_v (pe_var rfl))) (po_s (ps_v pe_c))))) (po_s (ps_v pe_c)))) pas_nil))))))) (.cons (.v _) (.cons (.v _) .nil))
def p_law_pair_rows (a0 a1 a2 : DL.D) : T Bool := (iteP (orP (notP (isi "tuple" (T.ret a0))) (bin KB dGt (blt KV bLen (con (lvP (lcP tgV (fun one_2 => (notP (call (ap4 h_lrow) (con (T.ret one_2) (con (T.ret ((.int 2) : DL.D)) (con (T.ret ((.int 0) : DL.D)) (con (T.ret ((.int 99) : DL.D)) (T.ret [])))))))) (fun one_2 => (T.ret one_2)) (items (T.ret a0)))) (T.ret []))) (T.ret ((.int 0) : DL.D))))
    (T.ret false)
    (andP (call (ap1 p_law_is_up) (con (T.ret a0) (T.ret []))) (bin KB dEq (blt KV bLen (con (lvP (lcP tgV (fun one_4 => (orP (bin KB dGe (bin KV dIx (T.ret one_4) (T.ret ((.int 0) : DL.D))) (T.ret a1)) (bin KB dGe (bin KV dIx (T.ret one_4) (T.ret ((.int 1) : DL.D))) (T.ret a2)))) (fun one_4 => (T.ret one_4)) (items (T.ret a0)))) (T.ret []))) (T.ret ((.int 0) : DL.D)))))
theorem pf_law_pair_rows (a0 a1 a2 : DL.D) : Rl KB.rel (p_law_pair_rows a0 a1 a2) (m_law_pair_rows [.v a0, .v a1, .v a2]) := fn_of (π := [.v a0, .v a1, .v a2, .any]) (n := 4) (sl := [.v a0, .v a1, .v a2]) (κ := KB) (pr_ifL (pt_or (pt_not (pt_of (pe_isi (po_s (ps_v (pe_var rfl)))))) (pt_of (pe_bin (po_s (ps_v (pe_b (pa_cons (po_s (ps_of (pe_lc (pi_seq (ps_v (pe_var rfl))) (pg_set rfl) (fun one_2 => (pt_not (pt_of (pe_call (rl4 hf_lrow) (pas_cons (ps_v (pe_var rfl)) (pas_cons (ps_v pe_c) (pas_cons (ps_v pe_c) (pas_cons (ps_v pe_c) pas_nil)))))))) (fun one_2 => (ps_v (pe_var rfl))) (fun _ => rfl)))) pa_nil)))) (po_s (ps_v pe_c))))) (pr_ret pe_cb) (pr_ret (pe_and (pe_call (rl1 pf_law_is_up) (pas_cons (ps_v (pe_var rfl)) pas_nil)) (pe_bin (po_s (ps_v (pe_b (pa_cons (po_s (ps_of (pe_lc (pi_seq (ps_v (pe_var rfl))) (pg_set rfl) (fun one_4 => (pt_or (pt_of (pe_bin (po_s (ps_v (pe_bin (po_s (ps_v (pe_var rfl))) (po_s (ps_v pe_c))))) (po_s (ps_v (pe_var rfl))))) (pt_of (pe_bin (po_s (ps_v (pe_bin (po_s (ps_v (pe_var rfl))) (po_s (ps_v pe_c))))) (po_s (ps_v (pe_var rfl))))))) (fun one_4 => (ps_v (pe_var rfl))) (fun _ => rfl)))) pa_nil)))) (po_s (ps_v pe_c)))))) (.cons (.v _) (.cons (.v _) (.cons (.v _) (.cons .anyU .nil))))
def p_law_is_games (a0 : DL.D) : T Bool := (iteP (orP (notP (isi "tuple" (T.ret a0))) (orP (bin KB dNe (blt KV bLen (con (T.ret a0) (T.ret []))) (T.ret ((.int 3) : DL.D))) (orP (notP (call (ap3 h_number) (con (bin KV dIx (T.ret a0) (T.ret ((.int 0) : DL.D))) (con (T.ret ((.int 1) : DL.D)) (con (T.ret ((.int 30) : DL.D)) (T.ret [])))))) (orP (notP (call (ap3 p_law_pair_rows) (con (bin KV dIx (T.ret a0) (T.ret ((.int 1) : DL.D))) (con (bin KV dIx (T.ret a0) (T.ret ((.int 0) : DL.D))) (con (bin KV dIx (T.ret a0) (T.ret ((.int 0) : DL.D))) (T.ret [])))))) (bin KB dGt (blt KV bLen (con (bin KV dIx (T.ret a0) (T.ret ((.int 1) : DL.D))) (T.ret []))) (T.ret ((.int 200) : DL.D)))))))
    (T.ret false)
    (andP (bin KB dEq (blt KV bLen (con (lvP (lcP tgV (fun one_2 => (bin KB dLe (bin KV dIx (T.ret one_2) (T.ret ((.int 0) : DL.D))) (bin KV dIx (T.ret one_2) (T.ret ((.int 1) : DL.D))))) (fun one_2 => (T.ret one_2)) (items (bin KV dIx (T.ret a0) (T.ret ((.int 1) : DL.D)))))) (T.ret []))) (T.ret ((.int 0) : DL.D))) (call (ap3 h_number) (con (bin KV dIx (T.ret a0) (T.ret ((.int 2) : DL.D))) (con (T.ret ((.int 0) : DL.D)) (con (bin KV dSub (bin KV dIx (T.ret a0) (T.ret ((.int 0) : DL.D))) (T.ret ((.int 1) : DL.D))) (T.ret [])))))))
theorem pf_law_is_games (a0 : DL.D) : Rl KB.rel (p_law_is_games a0) (m_law_is_games [.v a0]) := fn_of (π := [.v a0, .any]) (n := 2) (sl := [.v a0]) (κ := KB) (pr_ifL (pt_or (pt_not (pt_of (pe_isi (po_s (ps_v (pe_var rfl)))))) (pt_or (pt_of (pe_bin (po_s (ps_v (pe_b (pa_cons (po_s (ps_v (pe_var rfl))) pa_nil)))) (po_s (ps_v pe_c)))) (pt_or (pt_not (pt_of (pe_call (rl3 hf_number) (pas_cons (ps_v (pe_bin (po_s (ps_v (pe_var rfl))) (po_s (ps_v pe_c)))) (pas_cons (ps_v pe_c) (pas_cons (ps_v pe_c) pas_nil)))))) (pt_or (pt_not (pt_of (pe_call (rl3 pf_law_pair_rows) (pas_cons (ps_v (pe_bin (po_s (ps_v (pe_var rfl))) (po_s (ps_v pe_c)))) (pas_cons (ps_v (pe_bin (po_s (ps_v (pe_var rfl))) (po_s (ps_v pe_c)))) (pas_cons (ps_v (pe_bin (po_s (ps_v (pe_var rfl))) (po_s (ps_v pe_c)))) pas_nil)))))) (pt_of (pe_bin (po_s (ps_v (pe_b (pa_cons (po_s (ps_v (pe_bin (po_s (ps_v (pe_var rfl))) (po_s (ps_v pe_c))))) pa_nil)))) (po_s (ps_v pe_c)))))))) (pr_ret pe_cb) (pr_ret (pe_and (pe_bin (po_s (ps_v (pe_b (pa_cons (po_s (ps_of (pe_lc (pi_seq (ps_v (pe_bin (po_s (ps_v (pe_var rfl))) (po_s (ps_v pe_c))))) (pg_set rfl) (fun one_2 => (pt_of (pe_bin (po_s (ps_v (pe_bin (po_s (ps_v (pe_var rfl))) (po_s (ps_v pe_c))))) (po_s (ps_v (pe_bin (po_s (ps_v (pe_var rfl))) (po_s (ps_v pe_c)))))))) (fun one_2 => (ps_v (pe_var rfl))) (fun _ => rfl)))) pa_nil)))) (po_s (ps_v pe_c))) (pe_call (rl3 hf_number) (pas_cons (ps_v (pe_bin (po_s (ps_v (pe_var rfl))) (po_s (ps_v pe_c)))) (pas_cons (ps_v pe_c) (pas_cons (ps_v (pe_bin (po_s (ps_v (pe_bin (po_s (ps_v (pe_var rfl))) (po_s (ps_v pe_c))))) (po_s (ps_v pe_c)))) pas_nil))))))) (.cons (.v _) (.cons .anyU .nil))
def p_law_q_games : T DL.D := (T.bind (bin KV dAdd (T.ret ((.int 1) : DL.D)) (call (ap1 p_draw) (con (bin KV dIx (tup (con (T.ret ((.int 6) : DL.D)) (con (T.ret ((.int 14) : DL.D)) (T.ret [])))) (call (ap1 p_draw) (con (T.ret ((.int 2) : DL.D)) (T.ret [])))) (T.ret [])))) fun many_1 =>
    (T.bind (lst (T.ret [])) fun moves_2 =>
    (T.bind (T.bind (T.bind (con (call (ap1 p_draw) (con (bin KV dIx (tup (con (T.ret ((.int 6) : DL.D)) (con (T.ret ((.int 25) : DL.D)) (T.ret [])))) (call (ap1 p_draw) (con (T.ret ((.int 2) : DL.D)) (T.ret [])))) (T.ret []))) (T.ret [])) rng1) fun ds => forN (S := (List DL.D)) tgV (fun s3 k_6 =>
      (T.bind (call (ap1 p_draw) (con (T.ret many_1) (T.ret []))) fun a_7 =>
      (T.bind (iteP (bin KB dGt (T.ret a_7) (T.ret ((.int 0) : DL.D))) (T.bind (appP s3 (tup (con (T.ret a_7) (con (call (ap1 p_draw) (con (T.ret a_7) (T.ret []))) (T.ret []))))) fun moves_8 => T.ret moves_8) (T.ret s3)) fun s9 => T.ret s9))) moves_2 ds) fun s3 =>
    (tup (con (T.ret many_1) (con (blt KV bTuple (con (lvP (blt KL bSS (con (T.ret (.list s3 : DL.D)) (T.ret [])))) (T.ret []))) (con (call (ap1 p_draw) (con (T.ret many_1) (T.ret []))) (T.ret []))))))))
theorem pf_law_q_games : Rl KV.rel (p_law_q_games) (m_law_q_games [.o .pool]) := fn_of (π := [.pool, .any, .any, .any, .any]) (n := 5) (sl := [.o .pool]) (κ := KV) (pr_seq (pn_set (pe_bin (po_s (ps_v pe_c)) (po_s (ps_v (pe_callP rfl (rp1 pf_draw) (pas_cons (ps_v (pe_bin (po_s (ps_v (pe_tup (pas_cons (ps_v pe_c) (pas_cons (ps_v pe_c) pas_nil))))) (po_s (ps_v (pe_callP rfl (rp1 pf_draw) (pas_cons (ps_v pe_c) pas_nil)))))) pas_nil))))) rfl) (fun many_1 => (pr_seq (pn_set (pe_lst pas_nil) rfl) (fun moves_2 => (pr_seq (pn_for (po := (fun (s3 : (List DL.D)) => [.pool, .v many_1, .l s3, .any, .any])) moves_2 (pi_rng (pa_cons (po_s (ps_v (pe_callP rfl (rp1 pf_draw) (pas_cons (ps_v (pe_bin (po_s (ps_v (pe_tup (pas_cons (ps_v pe_c) (pas_cons (ps_v pe_c) pas_nil))))) (po_s (ps_v (pe_callP rfl (rp1 pf_draw) (pas_cons (ps_v pe_c) pas_nil)))))) pas_nil)))) pa_nil)) (by exact (.same (.same (.same (.same (.same .nil)))))) (fun s3 => (pg_set rfl)) (fun s3 k_6 => (pn_seq (pn_set (pe_callP rfl (rp1 pf_draw) (pas_cons (ps_v (pe_var rfl)) pas_nil)) rfl) (fun a_7 => (pn_end (fun s9 => s9) (pn_if (po := (fun (s9 : (List DL.D)) => [.pool, .v many_1, .l s9, .v k_6, .v a_7])) (pt_of (pe_bin (po_s (ps_v (pe_var rfl))) (po_s (ps_v pe_c)))) (pn_end (fun moves_8 => moves_8) (pn_app rfl (ps_v (pe_tup (pas_cons (ps_v (pe_var rfl)) (pas_cons (ps_v (pe_callP rfl (rp1 pf_draw) (pas_cons (ps_v (pe_var rfl)) pas_nil))) pas_nil))))) (fun moves_8 => (by exact (.same (.same (.same (.same (.same .nil)))))))) (pn_nextE (s := s3) (by exact (.same (.same (.same (.same (.same .nil)))))))) (fun s9 => (by exact (.same (.same (.same (.any rfl (.any rfl .nil)))))))))))) (fun s3 => (pr_ret (pe_tup (pas_cons (ps_v (pe_var rfl)) (pas_cons (ps_v (pe_b (pa_cons (po_s (ps_of (pe_b (pa_cons (po_l rfl) pa_nil)))) pa_nil))) (pas_cons (ps_v (pe_callP rfl (rp1 pf_draw) (pas_cons (ps_v (pe_var rfl)) pas_nil))) pas_nil))))))))))) (.cons .pool (.cons .anyU (.cons .anyU (.cons .anyU (.cons .anyU .nil)))))
def p_law_yes_games (a0 : DL.D) : T Bool := (winP (atW winW 40) (con (bin KV dIx (T.ret a0) (T.ret ((.int 2) : DL.D))) (con (bin KV dIx (T.ret a0) (T.ret ((.int 1) : DL.D))) (T.ret []))))
theorem pf_law_yes_games (a0 : DL.D) : Rl KB.rel (p_law_yes_games a0) (m_law_yes_games [.v a0]) := fn_of (π := [.v a0]) (n := 1) (sl := [.v a0]) (κ := KB) (pr_ret (pe_win (pas_cons (ps_v (pe_bin (po_s (ps_v (pe_var rfl))) (po_s (ps_v pe_c)))) (pas_cons (ps_v (pe_bin (po_s (ps_v (pe_var rfl))) (po_s (ps_v pe_c)))) pas_nil)) (at_win 40))) (.cons (.v _) .nil)
def p_law_lost_faults (a0 a1 a2 : DL.D) : T DL.D := (T.bind (lcP tgV (fun k_3 => (T.ret true)) (fun k_3 => (bvP (bin KB dGt (blt KV bLen (con (lvP (lcP tgV (fun one_5 => (bin KB dIn (T.ret one_5) (T.ret a1))) (fun one_5 => (T.ret one_5)) (items (bin KV dIx (T.ret a2) (T.ret k_3))))) (T.ret []))) (T.ret ((.int 0) : DL.D))))) (T.bind (con (blt KV bLen (con (T.ret a0) (T.ret []))) (T.ret [])) rng1)) fun leads_1 =>
    (T.bind (lcP tgV (fun k_8 => (andP (bin KB dIn (bin KV dIx (T.ret a0) (T.ret k_8)) (T.ret a1)) (vbP (bin KV dIx (T.ret (.list leads_1 : DL.D)) (T.ret k_8))))) (fun k_8 => (T.ret k_8)) (T.bind (con (blt KV bLen (con (T.ret a0) (T.ret []))) (T.ret [])) rng1)) fun inner_6 =>
    (T.bind (lcP tgV (fun k_11 => (andP (bin KB dNotIn (bin KV dIx (T.ret a0) (T.ret k_11)) (T.ret a1)) (notP (vbP (bin KV dIx (T.ret (.list leads_1 : DL.D)) (T.ret k_11)))))) (fun k_11 => (T.ret k_11)) (T.bind (con (blt KV bLen (con (T.ret a0) (T.ret []))) (T.ret [])) rng1)) fun outer_9 =>
    (call (ap1 p_law_first) (con (lvP (lst (con (tup (con (T.ret ((.str "inner") : DL.D)) (con (call (ap1 p_law_least) (con (T.ret (.list inner_6 : DL.D)) (T.ret []))) (T.ret [])))) (con (tup (con (T.ret ((.str "outer") : DL.D)) (con (call (ap1 p_law_least) (con (T.ret (.list outer_9 : DL.D)) (T.ret []))) (T.ret [])))) (T.ret []))))) (T.ret []))))))
theorem pf_law_lost_faults (a0 a1 a2 : DL.D) : Rl KV.rel (p_law_lost_faults a0 a1 a2) (m_law_lost_faults [.v a0, .v a1, .v a2]) := fn_of (π := [.v a0, .v a1, .v a2, .any, .any, .any, .any, .any]) (n := 8) (sl := [.v a0, .v a1, .v a2]) (κ := KV) (pr_seq (pn_setL (pe_lc (pi_rng (pa_cons (po_s (ps_v (pe_b (pa_cons (po_s (ps_v (pe_var rfl))) pa_nil)))) pa_nil)) (pg_set rfl) (fun k_3 => pt_yes) (fun k_3 => (ps_of (pe_bin (po_s (ps_v (pe_b (pa_cons (po_s (ps_of (pe_lc (pi_seq (ps_v (pe_bin (po_s (ps_v (pe_var rfl))) (po_s (ps_v (pe_var rfl)))))) (pg_set rfl) (fun one_5 => (pt_of (pe_bin (po_s (ps_v (pe_var rfl))) (po_s (ps_v (pe_var rfl)))))) (fun one_5 => (ps_v (pe_var rfl))) (fun _ => rfl)))) pa_nil)))) (po_s (ps_v pe_c))))) (fun _ => rfl)) rfl) (fun leads_1 => (pr_seq (pn_setL (pe_lc (pi_rng (pa_cons (po_s (ps_v (pe_b (pa_cons (po_s (ps_v (pe_var rfl))) pa_nil)))) pa_nil)) (pg_set rfl) (fun k_8 => (pt_and (pt_of (pe_bin (po_s (ps_v (pe_bin (po_s (ps_v (pe_var rfl))) (po_s (ps_v (pe_var rfl)))))) (po_s (ps_v (pe_var rfl))))) (pt_of (pe_vb (pe_bin (po_s (ps_f rfl)) (po_s (ps_v (pe_var rfl)))))))) (fun k_8 => (ps_v (pe_var rfl))) (fun _ => rfl)) rfl) (fun inner_6 => (pr_seq (pn_setL (pe_lc (pi_rng (pa_cons (po_s (ps_v (pe_b (pa_cons (po_s (ps_v (pe_var rfl))) pa_nil)))) pa_nil)) (pg_set rfl) (fun k_11 => (pt_and (pt_of (pe_bin (po_s (ps_v (pe_bin (po_s (ps_v (pe_var rfl))) (po_s (ps_v (pe_var rfl)))))) (po_s (ps_v (pe_var rfl))))) (pt_not (pt_of (pe_vb (pe_bin (po_s (ps_f rfl)) (po_s (ps_v (pe_var rfl))))))))) (fun k_11 => (ps_v (pe_var rfl))) (fun _ => rfl)) rfl) (fun outer_9 => (pr_ret (pe_call (rl1 pf_law_first) (pas_cons (ps_of (pe_lst (pas_cons (ps_v (pe_tup (pas_cons (ps_v pe_c) (pas_cons (ps_v (pe_call (rl1 pf_law_least) (pas_cons (ps_f rfl) pas_nil))) pas_nil)))) (pas_cons (ps_v (pe_tup (pas_cons (ps_v pe_c) (pas_cons (ps_v (pe_call (rl1 pf_law_least) (pas_cons (ps_f rfl) pas_nil))) pas_nil)))) pas_nil)))) pas_nil))))))))) (.cons (.v _) (.cons (.v _) (.cons (.v _) (.cons .anyU (.cons .anyU (.cons .anyU (.cons .anyU (.cons .anyU .nil))))))))
def p_law_f_games (a0 a1 : DL.D) : T DL.D := (iteP (orP (notP (orP (call (ap3 h_word) (con (T.ret a1) (con (T.ret ((.str "wins") : DL.D)) (con (T.ret ((.int 2) : DL.D)) (T.ret []))))) (call (ap3 h_word) (con (T.ret a1) (con (T.ret ((.str "loses") : DL.D)) (con (T.ret ((.int 2) : DL.D)) (T.ret []))))))) (notP (call (ap3 p_law_up_row) (con (bin KV dIx (T.ret a1) (T.ret ((.int 1) : DL.D))) (con (T.ret ((.int 0) : DL.D)) (con (bin KV dSub (bin KV dIx (T.ret a0) (T.ret ((.int 0) : DL.D))) (T.ret ((.int 1) : DL.D))) (T.ret [])))))))
    (tup (con (T.ret ((.str "form") : DL.D)) (con (T.ret ((.int 0) : DL.D)) (T.ret []))))
    (T.bind (lrgP (bin KV dIx (T.ret a0) (T.ret ((.int 0) : DL.D)))) fun every_1 =>
    (T.bind (lcP tgV (fun k_4 => (T.ret true)) (fun k_4 => (lvP (lcP (tgT 2 (tgC tgV (tgO tgV))) (fun s5 => (bin KB dEq (T.ret s5.1) (T.ret k_4))) (fun s5 => (T.ret s5.2)) (items (bin KV dIx (T.ret a0) (T.ret ((.int 1) : DL.D))))))) (items (T.ret (.list every_1 : DL.D)))) fun nexts_2 =>
    (T.bind (call (ap3 p_law_lost_faults) (con (T.ret (.list every_1 : DL.D)) (con (bin KV dIx (T.ret a1) (T.ret ((.int 1) : DL.D))) (con (T.ret (.list nexts_2 : DL.D)) (T.ret []))))) fun found_6 =>
    (iteP (bin KB dIsNot (T.ret found_6) (T.ret (.none : DL.D)))
    (T.ret found_6)
    (iteP (bin KB dNe (bvP (bin KB dIn (bin KV dIx (T.ret a0) (T.ret ((.int 2) : DL.D))) (bin KV dIx (T.ret a1) (T.ret ((.int 1) : DL.D))))) (bvP (bin KB dEq (bin KV dIx (T.ret a1) (T.ret ((.int 0) : DL.D))) (T.ret ((.str "loses") : DL.D))))) (tup (con (T.ret ((.str "start") : DL.D)) (con (bin KV dIx (T.ret a0) (T.ret ((.int 2) : DL.D))) (T.ret [])))) (T.ret (.none : DL.D))))))))
theorem pf_law_f_games (a0 a1 : DL.D) : Rl KV.rel (p_law_f_games a0 a1) (m_law_f_games [.v a0, .v a1]) := fn_of (π := [.v a0, .v a1, .any, .any, .any, .any, .any, .any]) (n := 8) (sl := [.v a0, .v a1]) (κ := KV) (pr_ifL (pt_or (pt_not (pt_or (pt_of (pe_call (rl3 hf_word) (pas_cons (ps_v (pe_var rfl)) (pas_cons (ps_v pe_c) (pas_cons (ps_v pe_c) pas_nil))))) (pt_of (pe_call (rl3 hf_word) (pas_cons (ps_v (pe_var rfl)) (pas_cons (ps_v pe_c) (pas_cons (ps_v pe_c) pas_nil))))))) (pt_not (pt_of (pe_call (rl3 pf_law_up_row) (pas_cons (ps_v (pe_bin (po_s (ps_v (pe_var rfl))) (po_s (ps_v pe_c)))) (pas_cons (ps_v pe_c) (pas_cons (ps_v (pe_bin (po_s (ps_v (pe_bin (po_s (ps_v (pe_var rfl))) (po_s (ps_v pe_c))))) (po_s (ps_v pe_c)))) pas_nil))))))) (pr_ret (pe_tup (pas_cons (ps_v pe_c) (pas_cons (ps_v pe_c) pas_nil)))) (pr_seq (pn_setL (pe_lrg (po_s (ps_v (pe_bin (po_s (ps_v (pe_var rfl))) (po_s (ps_v pe_c)))))) rfl) (fun every_1 => (pr_seq (pn_setL (pe_lc (pi_seq (ps_f rfl)) (pg_set rfl) (fun k_4 => pt_yes) (fun k_4 => (ps_of (pe_lc (pi_seq (ps_v (pe_bin (po_s (ps_v (pe_var rfl))) (po_s (ps_v pe_c))))) (pg_tup (pgs_cons (pg_set rfl) (fun _ => (pgs_one (pg_set rfl))))) (fun s5 => (pt_of (pe_bin (po_s (ps_v (pe_var rfl))) (po_s (ps_v (pe_var rfl)))))) (fun s5 => (ps_v (pe_var rfl))) (fun _ => rfl)))) (fun _ => rfl)) rfl) (fun nexts_2 => (pr_seq (pn_set (pe_call (rl3 pf_law_lost_faults) (pas_cons (ps_f rfl) (pas_cons (ps_v (pe_bin (po_s (ps_v (pe_var rfl))) (po_s (ps_v pe_c)))) (pas_cons (ps_f rfl) pas_nil)))) rfl) (fun found_6 => (pr_ifL (pt_of (pe_bin (po_s (ps_v (pe_var rfl))) (po_s (ps_v pe_c)))) (pr_ret (pe_var rfl)) (pr_ret (pe_if (pt_of (pe_bin (po_s (ps_of (pe_bin (po_s (ps_v (pe_bin (po_s (ps_v (pe_var rfl))) (po_s (ps_v pe_c))))) (po_s (ps_v (pe_bin (po_s (ps_v (pe_var rfl))) (po_s (ps_v pe_c)))))))) (po_s (ps_of (pe_bin (po_s (ps_v (pe_bin (po_s (ps_v (pe_var rfl))) (po_s (ps_v pe_c))))) (po_s (ps_v pe_c))))))) (pe_tup (pas_cons (ps_v pe_c) (pas_cons (ps_v (pe_bin (po_s (ps_v (pe_var rfl))) (po_s (ps_v pe_c)))) pas_nil))) pe_c)))))))))) (.cons (.v _) (.cons (.v _) (.cons .anyU (.cons .anyU (.cons .anyU (.cons .anyU (.cons .anyU (.cons .anyU .nil))))))))
def m_ex : MS := (sFor (iRngM rng1 (mCons (mC (.int 8)) mNil)) (gSet 8) (sSet 7 (mBin dAdd (mVar 7) (mLst (mCons (mTup (mCons (mBin dIx (mVar 5) (mC (.int 0))) (mCons (mCall m_law_some (mCons (mVar 1) (mCons (mBin dIx (mVar 3) (mC (.int 0))) (mCons (mC (.int 2)) mNil)))) mNil))) (mCons (mTup (mCons (mC (.str "loses")) (mCons (mCall m_law_some (mCons (mVar 1) (mCons (mBin dIx (mVar 3) (mC (.int 0))) (mCons (mC (.int 3)) mNil)))) mNil))) (mCons (mTup (mCons (mBin dIx (mVar 5) (mC (.int 0))) (mCons (mSl (mBin dIx (mVar 5) (mC (.int 1))) (oSome (mC (.int 1))) oNone) mNil))) mNil)))))))
theorem law_is : m_law = lawH 2 m_law_q_games m_law_yes_games m_paper m_law_f_games m_holds m_fault m_is_question m_law_is_games "wins" "loses" m_ex := rfl
def p_ex (q : DL.D) (w : Bool) (t o : DL.D) (l : List DL.D) : T (List DL.D) := (T.bind (T.bind (con (T.ret ((.int 8) : DL.D)) (T.ret [])) rng1) fun ds => forN (S := (List DL.D)) tgV (fun s1 k_4 =>
      (T.bind (bin KL dAdd (T.ret (.list s1 : DL.D)) (lvP (lst (con (tup (con (bin KV dIx (T.ret t) (T.ret ((.int 0) : DL.D))) (con (call (ap2 p_law_some) (con (bin KV dIx (T.ret q) (T.ret ((.int 0) : DL.D))) (con (T.ret ((.int 2) : DL.D)) (T.ret [])))) (T.ret [])))) (con (tup (con (T.ret ((.str "loses") : DL.D)) (con (call (ap2 p_law_some) (con (bin KV dIx (T.ret q) (T.ret ((.int 0) : DL.D))) (con (T.ret ((.int 3) : DL.D)) (T.ret [])))) (T.ret [])))) (con (tup (con (bin KV dIx (T.ret t) (T.ret ((.int 0) : DL.D))) (con (sl KV (bin KV dIx (T.ret t) (T.ret ((.int 1) : DL.D))) (T.bind (T.ret ((.int 1) : DL.D)) asI) (T.ret none)) (T.ret [])))) (T.ret []))))))) fun tried_5 => T.ret tried_5)) l ds)
theorem hx (d q : DL.D) (w : Bool) (t o : DL.D) (l : List DL.D) : PN (exP d q w t o l) m_ex (p_ex q w t o l) (fun l' => exP d q w t o l') := (pn_for (po := (fun (s1 : (List DL.D)) => [.any, .pool, .v d, .v q, .v (.bool w), .v t, .v o, .l s1, .any, .any, .any])) l (pi_rng (pa_cons (po_s (ps_v pe_c)) pa_nil)) (by exact (.same (.same (.same (.same (.same (.same (.same (.same (.same (.same (.same .nil)))))))))))) (fun s1 => (pg_set rfl)) (fun s1 k_4 => (pn_end (fun tried_5 => tried_5) (pn_set (pe_bin (po_l rfl) (po_s (ps_of (pe_lst (pas_cons (ps_v (pe_tup (pas_cons (ps_v (pe_bin (po_s (ps_v (pe_var rfl))) (po_s (ps_v pe_c)))) (pas_cons (ps_v (pe_callP rfl (rp2 pf_law_some) (pas_cons (ps_v (pe_bin (po_s (ps_v (pe_var rfl))) (po_s (ps_v pe_c)))) (pas_cons (ps_v pe_c) pas_nil)))) pas_nil)))) (pas_cons (ps_v (pe_tup (pas_cons (ps_v pe_c) (pas_cons (ps_v (pe_callP rfl (rp2 pf_law_some) (pas_cons (ps_v (pe_bin (po_s (ps_v (pe_var rfl))) (po_s (ps_v pe_c)))) (pas_cons (ps_v pe_c) pas_nil)))) pas_nil)))) (pas_cons (ps_v (pe_tup (pas_cons (ps_v (pe_bin (po_s (ps_v (pe_var rfl))) (po_s (ps_v pe_c)))) (pas_cons (ps_v (pe_sl (po_s (ps_v (pe_bin (po_s (ps_v (pe_var rfl))) (po_s (ps_v pe_c))))) (pp_some pe_c) pp_none)) pas_nil)))) pas_nil))))))) rfl) (fun tried_5 => (by exact (.same (.same (.same (.same (.same (.same (.same (.same (.any rfl (.same (.same .nil))))))))))))))))
abbrev Ok := LawOk 2 p_law_q_games p_law_yes_games p_paper p_law_f_games p_holds p_fault p_is_question p_law_is_games "wins" "loses" p_ex
theorem main_of {B h W : Nat} {Qs : DL.D → Bool → List DL.D → Prop} (L : Ok B h W Qs) : (m_law ((List.replicate 11 Sl.u).set 1 (.o .pool))).wp fun p => p.1 = .rt (.v (.bool true)) := by
  rw [law_is]
  exact lawH_holds pf_law_q_games pf_law_yes_games pf_paper pf_law_f_games pf_holds pf_fault pf_is_question pf_law_is_games hx L
end K31

set_option pp.maxSteps 600
namespace PL
open PySem PySem.Spec PyProof.Rows L2 DL DL.Sc
/-! ### lists of ints, ranges -/
abbrev iL (l : List Int) : List DL.D := l.map PyData.int
def upto (n : Nat) : List Int := (List.range n).map fun (k : Nat) => (k : Int)
theorem rng_up (n : Nat) : rngD 0 n = iL (upto n) := by
  unfold rngD upto iL
  rw [List.map_map]
  refine List.map_congr_left fun k _ => ?_
  show PyData.int (0 + (k : Int)) = PyData.int (k : Int)
  rw [Int.zero_add]
theorem upto_len (n : Nat) : (upto n).length = n := by unfold upto; rw [List.length_map, List.length_range]
theorem mem_upto {n : Nat} {i : Int} : i ∈ upto n ↔ 0 ≤ i ∧ i < n := by
  unfold upto
  rw [List.mem_map]
  constructor
  · rintro ⟨k, hk, rfl⟩
    have := List.mem_range.mp hk
    omega
  · rintro ⟨h0, h1⟩
    exact ⟨i.toNat, List.mem_range.mpr (by omega), Int.toNat_of_nonneg h0⟩
theorem rng1_up {n : Int} (h0 : 0 ≤ n) (h1 : n ≤ 1000000) : rng1 [.int n] = .ret (iL (upto n.toNat)) := by
  rw [← rng_up]
  have := rng1_nat (n := n.toNat) (by omega)
  rwa [Int.toNat_of_nonneg h0] at this
theorem rng1_upN {n : Nat} (h1 : n ≤ 1000000) : rng1 [.int (n : Int)] = .ret (iL (upto n)) := by
  rw [← rng_up]; exact rng1_nat h1
theorem each_int {t : DL.D → T Bool} {e : DL.D → T DL.D} (l : List Int) (b : Int → Bool) (g : Int → DL.D) (hc : ∀ i ∈ l, t (.int i) = .ret (b i)) (he : ∀ i ∈ l, b i = true → e (.int i) = .ret (g i)) : each tgV t e (iL l) = .ret ((l.filter b).map g) := by
  rw [iL, each_map]
  exact each_ret (s := fun i => PyData.int i) l (fun _ _ => rfl) hc he
theorem filt_true {α : Type} (l : List α) : l.filter (fun _ => true) = l := List.filter_eq_self.mpr fun _ _ => rfl
theorem each_ints {e : DL.D → T DL.D} (l : List Int) (g : Int → DL.D) (he : ∀ i ∈ l, e (.int i) = .ret (g i)) : each tgV (fun _ => T.ret true) e (iL l) = .ret (l.map g) := by
  rw [each_int l (fun _ => true) g (fun _ _ => rfl) fun i hi _ => he i hi, filt_true]
theorem each_up {t : DL.D → T Bool} {e : DL.D → T DL.D} (n : Nat) (b : Nat → Bool) (g : Nat → DL.D) (hc : ∀ k, k < n → t (.int (k : Int)) = .ret (b k)) (he : ∀ k, k < n → b k = true → e (.int (k : Int)) = .ret (g k)) : each tgV t e (iL (upto n)) = .ret (((List.range n).filter b).map g) := by
  unfold upto
  rw [iL, List.map_map, each_map]
  exact each_ret (s := fun (k : Nat) => PyData.int (k : Int)) _ (fun _ _ => rfl) (fun k hk => hc k (List.mem_range.mp hk)) fun k hk => he k (List.mem_range.mp hk)
theorem each_ups {e : DL.D → T DL.D} (n : Nat) (g : Nat → DL.D) (he : ∀ k, k < n → e (.int (k : Int)) = .ret (g k)) : each tgV (fun _ => T.ret true) e (iL (upto n)) = .ret ((List.range n).map g) := by
  rw [each_up n (fun _ => true) g (fun _ _ => rfl) fun k hk _ => he k hk, filt_true]
/-- over any data -/
theorem each_dat {α : Type} {φ : α → DL.D} {t : DL.D → T Bool} {e : DL.D → T DL.D} (l : List α) (b : α → Bool) (g : α → DL.D) (hc : ∀ i ∈ l, t (φ i) = .ret (b i)) (he : ∀ i ∈ l, b i = true → e (φ i) = .ret (g i)) : each tgV t e (l.map φ) = .ret ((l.filter b).map g) := by
  rw [each_map]
  exact each_ret (s := φ) l (fun _ _ => rfl) hc he
theorem each_dats {α : Type} {φ : α → DL.D} {e : DL.D → T DL.D} (l : List α) (g : α → DL.D) (he : ∀ i ∈ l, e (φ i) = .ret (g i)) : each tgV (fun _ => T.ret true) e (l.map φ) = .ret (l.map g) := by
  rw [each_dat l (fun _ => true) g (fun _ _ => rfl) fun i hi _ => he i hi, filt_true]
/-! ### any, all -/
theorem bools_of {α : Type} (l : List α) (f : α → Bool) : boolsD (l.map fun a => .bool (f a)) = some (l.map f) := by
  induction l with
  | nil => rfl
  | cons a l ih => rw [List.map_cons, boolsD, ih]; rfl
theorem bAll_is {α : Type} (l : List α) (f : α → Bool) : bAll [.list (l.map fun a => .bool (f a))] = .ret (.v (.bool (l.all f))) := by
  show ofB ((boolsD _).map fun l => l.all id) = _
  rw [bools_of]
  show T.ret (R.v (.bool ((l.map f).all id))) = _
  rw [List.all_map]; rfl
theorem bAny_is {α : Type} (l : List α) (f : α → Bool) : bAny [.list (l.map fun a => .bool (f a))] = .ret (.v (.bool (l.any f))) := by
  show ofB ((boolsD _).map fun l => l.any id) = _
  rw [bools_of]
  show T.ret (R.v (.bool ((l.map f).any id))) = _
  rw [List.any_map]; rfl
/-! ### in -/
theorem in_gen {d : DL.D} {xs : List DL.D} (h1 : PyData.canLayAll0 xs = true) (h2 : d.canLay0 = true) (h3 : d.depth ≤ 100) : inD d (.tuple xs) = some (xs.any fun y => PyData.eqv y d) ∧ inD d (.list xs) = some (xs.any fun y => PyData.eqv y d) := by
  have h : (PyData.canLayAll0 xs && d.canLay0 && decide (min (PyData.depthAll xs) d.depth ≤ 100)) = true := by
    rw [h1, h2, decide_eq_true (Nat.le_trans (Nat.min_le_right _ _) h3)]; rfl
  exact ⟨if_pos h, if_pos h⟩
theorem eqv_int (a b : Int) : PyData.eqv (.int a) (.int b) = decide (a = b) := by
  rw [PyData.eqv]; first | rfl | exact Int.beq_eq_decide_eq' a b | simp only [Bool.beq_eq_decide_eq, beq_eq_decide]
theorem any_int (x : Int) (l : List Int) : ((iL l).any fun y => PyData.eqv y (.int x)) = decide (x ∈ l) := by
  induction l with
  | nil => rfl
  | cons a l ih =>
    rw [iL, List.map_cons, List.any_cons, ih, eqv_int, ← Bool.decide_or]
    exact decide_eq_decide.mpr ⟨fun h => h.elim (fun e => e ▸ List.mem_cons_self) (List.mem_cons_of_mem _), fun h => (List.mem_cons.mp h).imp (fun e => e.symm) id⟩
theorem in_int (x : Int) (l : List Int) : inD (.int x) (.tuple (iL l)) = some (decide (x ∈ l)) ∧ inD (.int x) (.list (iL l)) = some (decide (x ∈ l)) := by
  have h := in_gen (d := .int x) (xs := iL l) (lay_ints l) rfl (by rw [PyData.depth]; decide)
  rw [any_int] at h; exact h
theorem dIn_it (x : Int) (l : List Int) : dIn (.int x) (.tuple (iL l)) = .ret (.v (.bool (decide (x ∈ l)))) := by unfold dIn; rw [(in_int x l).1]; rfl
theorem dIn_il (x : Int) (l : List Int) : dIn (.int x) (.list (iL l)) = .ret (.v (.bool (decide (x ∈ l)))) := by unfold dIn; rw [(in_int x l).2]; rfl
theorem dNotIn_it (x : Int) (l : List Int) : dNotIn (.int x) (.tuple (iL l)) = .ret (.v (.bool (!decide (x ∈ l)))) := by unfold dNotIn; rw [(in_int x l).1]; rfl
theorem dNotIn_il (x : Int) (l : List Int) : dNotIn (.int x) (.list (iL l)) = .ret (.v (.bool (!decide (x ∈ l)))) := by unfold dNotIn; rw [(in_int x l).2]; rfl
/-! ### the first of a row of flags -/
def firstI (n : Nat) (c : Nat → Bool) : DL.D := match (List.range n).find? c with | some k => .int (k : Int) | none => .none
theorem dIx_mapN {α : Type} {l : List α} {f : α → DL.D} {k : Nat} {a : α} (h : l[k]? = some a) : dIx (.list (l.map f)) (.int (k : Int)) = .ret (.v (f a)) := dIx_listN (by rw [List.getElem?_map, h]; rfl)
theorem dIx_rng {n k : Nat} {f : Nat → DL.D} (h : k < n) : dIx (.list ((List.range n).map f)) (.int (k : Int)) = .ret (.v (f k)) := dIx_mapN (by rw [List.getElem?_range h])
theorem first_true_is {n : Nat} (hn : n ≤ 100000) (c : Nat → Bool) : p_first_true (.list ((List.range n).map fun k => .bool (c k))) = .ret (firstI n c) := by
  have go : ∀ (ks : List Nat), (∀ k ∈ ks, k < n) → forB (S := Unit) (S' := Unit) tgV (fun s2 k_4 => (iteP (vbP (bin KV dIx (T.ret (.list ((List.range n).map fun k => .bool (c k)))) (T.ret k_4))) (T.bind (T.ret k_4) fun x => T.ret (Ct.rt x : Ct Unit Unit DL.D)) (T.ret (Ct.nx () : Ct Unit Unit DL.D)))) () (iL (ks.map fun (k : Nat) => (k : Int))) = .ret (match ks.find? c with | some k => .rt (.int (k : Int)) | none => .nx ()) := by
    intro ks
    induction ks with
    | nil => intro _; rfl
    | cons k ks ih =>
      intro h
      have hk := h k List.mem_cons_self
      have ih := ih fun x hx => h x (List.mem_cons_of_mem _ hx)
      rw [List.map_cons, iL, List.map_cons, forB_cons]
      simp -implicitDefEqProofs only [tgV, bind_r, iteP, bin, dIx_rng hk, kv_of, p_vb]
      rw [List.find?_cons]
      cases e : c k with
      | true => simp only [if_true, bind_r]
      | false => simp only [if_false, bind_r, Bool.false_eq_true]; exact ih
  have e2 : blt KV bLen (con (T.ret (.list ((List.range n).map fun k => .bool (c k)))) (T.ret [])) = .ret (.int (n : Int)) := by
    simp -implicitDefEqProofs only [PL.bin, PL.un, PL.call, PL.ap0, PL.ap1, PL.ap2, PL.ap3, PL.ap4, PL.ap5, PL.ap6, PL.con, PL.blt, PL.tup, PL.lst, PL.lcP, PL.items, itemsOf, PL.sl, PL.bvP, PL.lvP, PL.kvP, p_vb, asI_i, PL.tgV, PL.tgO, PL.tgC, PL.tgT, PL.andP, PL.orP, PL.notP, PL.iteP, PL.isi, PL.cmp2, PL.appP, PL.thenR, PL.thenB, bind_r, bind_s, wp_ret, bind_ite, kv_of, kb_of, kl_of, kk_of, kf_v, kf_l, kk_val, e_chk, each_nil, each_cons, forN_nil, forN_cons, forB_nil, forB_cons, List.append_nil, List.nil_append, List.cons_append, List.length_cons, List.length_nil, Bool.false_eq_true, if_true, if_false, Bool.not_true, Bool.not_false, Nat.zero_add, Nat.le_refl, Nat.zero_le, isi_none, isi_bool, isi_int, isi_str, isi_list, isi_tuple, isi_dict, dIs, dIsNot, isn_none, isn_int, isn_bool, isn_str, isn_tup, isn_lst, isn_dict, decide_eq_true_eq, Bool.not_eq_true, Nat.reduceLeDiff, Nat.reduceAdd, Nat.reduceSub, reduceIte, ite_self, bLen_list, List.length_map, List.length_range]
  have e3 : T.bind (con (T.ret (.int (n : Int))) (T.ret [])) rng1 = .ret (iL (upto n)) := by
    simp -implicitDefEqProofs only [PL.bin, PL.un, PL.call, PL.ap0, PL.ap1, PL.ap2, PL.ap3, PL.ap4, PL.ap5, PL.ap6, PL.con, PL.blt, PL.tup, PL.lst, PL.lcP, PL.items, itemsOf, PL.sl, PL.bvP, PL.lvP, PL.kvP, p_vb, asI_i, PL.tgV, PL.tgO, PL.tgC, PL.tgT, PL.andP, PL.orP, PL.notP, PL.iteP, PL.isi, PL.cmp2, PL.appP, PL.thenR, PL.thenB, bind_r, bind_s, wp_ret, bind_ite, kv_of, kb_of, kl_of, kk_of, kf_v, kf_l, kk_val, e_chk, each_nil, each_cons, forN_nil, forN_cons, forB_nil, forB_cons, List.append_nil, List.nil_append, List.cons_append, List.length_cons, List.length_nil, Bool.false_eq_true, if_true, if_false, Bool.not_true, Bool.not_false, Nat.zero_add, Nat.le_refl, Nat.zero_le, isi_none, isi_bool, isi_int, isi_str, isi_list, isi_tuple, isi_dict, dIs, dIsNot, isn_none, isn_int, isn_bool, isn_str, isn_tup, isn_lst, isn_dict, decide_eq_true_eq, Bool.not_eq_true, Nat.reduceLeDiff, Nat.reduceAdd, Nat.reduceSub, reduceIte, ite_self, rng1_upN (n := n) (by omega)]
  unfold p_first_true
  rw [e2, e3, bind_r]
  unfold upto
  rw [go _ fun k hk => List.mem_range.mp hk]
  unfold firstI thenR
  cases (List.range n).find? c <;> rfl
theorem minI_le {a : Int} : ∀ {l : List Int}, (∀ x ∈ l, a ≤ x) → minI a l = a
  | [], _ => rfl
  | x :: l, h => by
    have := h x List.mem_cons_self
    rw [minI, if_neg (by omega)]
    exact minI_le fun y hy => h y (List.mem_cons_of_mem _ hy)
theorem least_up (n : Nat) (c : Nat → Bool) : leastD (((List.range n).filter c).map fun (k : Nat) => (k : Int)) = firstI n c := by
  unfold firstI
  have go : ∀ (l : List Nat), l.Pairwise (· < ·) → leastD ((l.filter c).map fun (k : Nat) => (k : Int)) = (match l.find? c with | some k => .int (k : Int) | none => .none) := by
    intro l
    induction l with
    | nil => intro _; rfl
    | cons k l ih =>
      intro h
      obtain ⟨h1, h2⟩ := List.pairwise_cons.mp h
      rw [List.find?_cons, List.filter_cons]
      cases e : c k with
      | false => exact ih h2
      | true =>
        rw [if_pos rfl, List.map_cons]
        show PyData.int (minI _ _) = _
        rw [minI_le]
        intro x hx
        obtain ⟨j, hj, rfl⟩ := List.mem_map.mp hx
        have := h1 j (List.mem_filter.mp hj).1
        omega
  exact go _ List.pairwise_lt_range
/-! ### faults by name -/
def fau (w : Str) (d : DL.D) : DL.D := if isNone d = true then .none else .tuple [.str w, d]
theorem fault_at_w (w : Str) (d : DL.D) : p_fault_at (.str w) d = .ret (fau w d) := fault_at_is _ _
theorem firstO_fau (zs : List (Str × DL.D)) : firstO (zs.map fun z => fau z.1 z.2) = firstP (zs.map fun z => (.str z.1, z.2)) := by
  induction zs with
  | nil => rfl
  | cons z zs ih =>
    obtain ⟨w, d⟩ := z
    unfold firstO at ih ⊢
    rw [List.map_cons, List.map_cons, List.find?_cons, firstP]
    unfold fau
    by_cases h : isNone d = true
    · rw [if_pos h, if_pos h]
      show (List.find? _ _).getD _ = _
      exact ih
    · rw [if_neg h, if_neg h]; rfl
end PL

namespace PL
open PySem PySem.Spec PyProof.Rows L2 DL DL.Sc
/-! ### ascending rows -/
theorem rng1_any {n : Int} (h0 : -1000000 ≤ n) (h1 : n ≤ 1000000) : rng1 [.int n] = .ret (iL (upto n.toNat)) := by
  rw [← rng_up]
  show (if big n = true then T.ret (rngD 0 n.toNat) else .stop) = _
  rw [if_pos (by unfold big; exact decide_eq_true ⟨h0, h1⟩)]
theorem ix_get {xs : List DL.D} {k : Nat} (h : k < xs.length) : dIx (.tuple xs) (.int (k : Int)) = .ret (.v xs[k]) := dIx_tup (List.getElem?_eq_getElem h)
section
variable {xs : List DL.D} {lt : Nat → Bool}
theorem rises_gen (hl : xs.length ≤ 100000) (h : ∀ (k : Nat) (h : k + 1 < xs.length), dLt xs[k] xs[k + 1] = .ret (.v (.bool (lt k)))) : p_rises (.tuple xs) = .ret ((List.range (xs.length - 1)).all lt) := by
  have e1 : rng1 [.int ((xs.length : Int) - 1)] = .ret (iL (upto (xs.length - 1))) := by
    rw [rng1_any (by omega) (by omega)]
    congr 3; omega
  have hu : (iL (upto (xs.length - 1))).length ≤ 100000 := by rw [iL, List.length_map, upto_len]; omega
  simp -implicitDefEqProofs only [p_rises, PL.bin, PL.un, PL.call, PL.ap0, PL.ap1, PL.ap2, PL.ap3, PL.ap4, PL.ap5, PL.ap6, PL.con, PL.blt, PL.tup, PL.lst, PL.lcP, PL.items, itemsOf, PL.sl, PL.bvP, PL.lvP, PL.kvP, p_vb, asI_i, PL.tgV, PL.tgO, PL.tgC, PL.tgT, PL.andP, PL.orP, PL.notP, PL.iteP, PL.isi, PL.cmp2, PL.appP, PL.thenR, PL.thenB, bind_r, bind_s, wp_ret, bind_ite, kv_of, kb_of, kl_of, kk_of, kf_v, kf_l, kk_val, e_chk, each_nil, each_cons, forN_nil, forN_cons, forB_nil, forB_cons, List.append_nil, List.nil_append, List.cons_append, List.length_cons, List.length_nil, Bool.false_eq_true, if_true, if_false, Bool.not_true, Bool.not_false, Nat.zero_add, Nat.le_refl, Nat.zero_le, isi_none, isi_bool, isi_int, isi_str, isi_list, isi_tuple, isi_dict, dIs, dIsNot, isn_none, isn_int, isn_bool, isn_str, isn_tup, isn_lst, isn_dict, decide_eq_true_eq, Bool.not_eq_true, Nat.reduceLeDiff, Nat.reduceAdd, Nat.reduceSub, reduceIte, ite_self, bLen_tup, dSub_int, e1, hu]
  rw [each_ups (xs.length - 1) fun k => .bool (lt k)]
  · simp -implicitDefEqProofs only [PL.bin, PL.un, PL.call, PL.ap0, PL.ap1, PL.ap2, PL.ap3, PL.ap4, PL.ap5, PL.ap6, PL.con, PL.blt, PL.tup, PL.lst, PL.lcP, PL.items, itemsOf, PL.sl, PL.bvP, PL.lvP, PL.kvP, p_vb, asI_i, PL.tgV, PL.tgO, PL.tgC, PL.tgT, PL.andP, PL.orP, PL.notP, PL.iteP, PL.isi, PL.cmp2, PL.appP, PL.thenR, PL.thenB, bind_r, bind_s, wp_ret, bind_ite, kv_of, kb_of, kl_of, kk_of, kf_v, kf_l, kk_val, e_chk, each_nil, each_cons, forN_nil, forN_cons, forB_nil, forB_cons, List.append_nil, List.nil_append, List.cons_append, List.length_cons, List.length_nil, Bool.false_eq_true, if_true, if_false, Bool.not_true, Bool.not_false, Nat.zero_add, Nat.le_refl, Nat.zero_le, isi_none, isi_bool, isi_int, isi_str, isi_list, isi_tuple, isi_dict, dIs, dIsNot, isn_none, isn_int, isn_bool, isn_str, isn_tup, isn_lst, isn_dict, decide_eq_true_eq, Bool.not_eq_true, Nat.reduceLeDiff, Nat.reduceAdd, Nat.reduceSub, reduceIte, ite_self, bAll_is]
  · intro k hk
    have h1 : k < xs.length := by omega
    have h2 : k + 1 < xs.length := by omega
    have e2 := ix_get h2
    rw [Int.natCast_add] at e2
    simp -implicitDefEqProofs only [PL.bin, PL.un, PL.call, PL.ap0, PL.ap1, PL.ap2, PL.ap3, PL.ap4, PL.ap5, PL.ap6, PL.con, PL.blt, PL.tup, PL.lst, PL.lcP, PL.items, itemsOf, PL.sl, PL.bvP, PL.lvP, PL.kvP, p_vb, asI_i, PL.tgV, PL.tgO, PL.tgC, PL.tgT, PL.andP, PL.orP, PL.notP, PL.iteP, PL.isi, PL.cmp2, PL.appP, PL.thenR, PL.thenB, bind_r, bind_s, wp_ret, bind_ite, kv_of, kb_of, kl_of, kk_of, kf_v, kf_l, kk_val, e_chk, each_nil, each_cons, forN_nil, forN_cons, forB_nil, forB_cons, List.append_nil, List.nil_append, List.cons_append, List.length_cons, List.length_nil, Bool.false_eq_true, if_true, if_false, Bool.not_true, Bool.not_false, Nat.zero_add, Nat.le_refl, Nat.zero_le, isi_none, isi_bool, isi_int, isi_str, isi_list, isi_tuple, isi_dict, dIs, dIsNot, isn_none, isn_int, isn_bool, isn_str, isn_tup, isn_lst, isn_dict, decide_eq_true_eq, Bool.not_eq_true, Nat.reduceLeDiff, Nat.reduceAdd, Nat.reduceSub, reduceIte, ite_self, ix_get h1, dAdd_int]
    rw [show ((k : Int) + 1) = (k : Int) + ((1 : Nat) : Int) from rfl, e2]
    simp -implicitDefEqProofs only [PL.bin, PL.un, PL.call, PL.ap0, PL.ap1, PL.ap2, PL.ap3, PL.ap4, PL.ap5, PL.ap6, PL.con, PL.blt, PL.tup, PL.lst, PL.lcP, PL.items, itemsOf, PL.sl, PL.bvP, PL.lvP, PL.kvP, p_vb, asI_i, PL.tgV, PL.tgO, PL.tgC, PL.tgT, PL.andP, PL.orP, PL.notP, PL.iteP, PL.isi, PL.cmp2, PL.appP, PL.thenR, PL.thenB, bind_r, bind_s, wp_ret, bind_ite, kv_of, kb_of, kl_of, kk_of, kf_v, kf_l, kk_val, e_chk, each_nil, each_cons, forN_nil, forN_cons, forB_nil, forB_cons, List.append_nil, List.nil_append, List.cons_append, List.length_cons, List.length_nil, Bool.false_eq_true, if_true, if_false, Bool.not_true, Bool.not_false, Nat.zero_add, Nat.le_refl, Nat.zero_le, isi_none, isi_bool, isi_int, isi_str, isi_list, isi_tuple, isi_dict, dIs, dIsNot, isn_none, isn_int, isn_bool, isn_str, isn_tup, isn_lst, isn_dict, decide_eq_true_eq, Bool.not_eq_true, Nat.reduceLeDiff, Nat.reduceAdd, Nat.reduceSub, reduceIte, ite_self, h k h2]
theorem is_up_gen (hl : xs.length ≤ 100000) (h : ∀ (k : Nat) (h : k + 1 < xs.length), dLt xs[k] xs[k + 1] = .ret (.v (.bool (lt k)))) : p_law_is_up (.tuple xs) = .ret ((List.range (xs.length - 1)).all lt) := by
  have e1 : rng2 [.int 1, .int (xs.length : Int)] = .ret ((List.range (xs.length - 1)).map fun (k : Nat) => .int ((k : Int) + 1)) := by
    show (if big 1 = true ∧ big (xs.length : Int) = true then T.ret (rngD 1 ((xs.length : Int) - 1).toNat) else .stop) = _
    rw [if_pos ⟨by decide, by unfold big; exact decide_eq_true (by omega)⟩]
    unfold rngD
    rw [show ((xs.length : Int) - 1).toNat = xs.length - 1 by omega]
    congr 1
    exact List.map_congr_left fun k _ => by rw [Int.add_comm]
  have hu : ((List.range (xs.length - 1)).map fun (k : Nat) => (.int ((k : Int) + 1) : DL.D)).length ≤ 100000 := by rw [List.length_map, List.length_range]; omega
  simp -implicitDefEqProofs only [p_law_is_up, PL.bin, PL.un, PL.call, PL.ap0, PL.ap1, PL.ap2, PL.ap3, PL.ap4, PL.ap5, PL.ap6, PL.con, PL.blt, PL.tup, PL.lst, PL.lcP, PL.items, itemsOf, PL.sl, PL.bvP, PL.lvP, PL.kvP, p_vb, asI_i, PL.tgV, PL.tgO, PL.tgC, PL.tgT, PL.andP, PL.orP, PL.notP, PL.iteP, PL.isi, PL.cmp2, PL.appP, PL.thenR, PL.thenB, bind_r, bind_s, wp_ret, bind_ite, kv_of, kb_of, kl_of, kk_of, kf_v, kf_l, kk_val, e_chk, each_nil, each_cons, forN_nil, forN_cons, forB_nil, forB_cons, List.append_nil, List.nil_append, List.cons_append, List.length_cons, List.length_nil, Bool.false_eq_true, if_true, if_false, Bool.not_true, Bool.not_false, Nat.zero_add, Nat.le_refl, Nat.zero_le, isi_none, isi_bool, isi_int, isi_str, isi_list, isi_tuple, isi_dict, dIs, dIsNot, isn_none, isn_int, isn_bool, isn_str, isn_tup, isn_lst, isn_dict, decide_eq_true_eq, Bool.not_eq_true, Nat.reduceLeDiff, Nat.reduceAdd, Nat.reduceSub, reduceIte, ite_self, bLen_tup, e1, hu]
  rw [each_dat (List.range (xs.length - 1)) (fun k => !lt k) fun (k : Nat) => .int ((k : Int) + 1)]
  · simp -implicitDefEqProofs only [PL.bin, PL.un, PL.call, PL.ap0, PL.ap1, PL.ap2, PL.ap3, PL.ap4, PL.ap5, PL.ap6, PL.con, PL.blt, PL.tup, PL.lst, PL.lcP, PL.items, itemsOf, PL.sl, PL.bvP, PL.lvP, PL.kvP, p_vb, asI_i, PL.tgV, PL.tgO, PL.tgC, PL.tgT, PL.andP, PL.orP, PL.notP, PL.iteP, PL.isi, PL.cmp2, PL.appP, PL.thenR, PL.thenB, bind_r, bind_s, wp_ret, bind_ite, kv_of, kb_of, kl_of, kk_of, kf_v, kf_l, kk_val, e_chk, each_nil, each_cons, forN_nil, forN_cons, forB_nil, forB_cons, List.append_nil, List.nil_append, List.cons_append, List.length_cons, List.length_nil, Bool.false_eq_true, if_true, if_false, Bool.not_true, Bool.not_false, Nat.zero_add, Nat.le_refl, Nat.zero_le, isi_none, isi_bool, isi_int, isi_str, isi_list, isi_tuple, isi_dict, dIs, dIsNot, isn_none, isn_int, isn_bool, isn_str, isn_tup, isn_lst, isn_dict, decide_eq_true_eq, Bool.not_eq_true, Nat.reduceLeDiff, Nat.reduceAdd, Nat.reduceSub, reduceIte, ite_self, bLen_list, dEq_int, List.length_map]
    refine congrArg T.ret ?_
    rw [Bool.eq_iff_iff, decide_eq_true_eq, List.all_eq_true, Int.natCast_eq_zero, List.length_eq_zero_iff, List.filter_eq_nil_iff]
    refine ⟨fun h k hk => ?_, fun h k hk => ?_⟩
    · have := h k hk
      cases e : lt k with
      | true => rfl
      | false => rw [e] at this; exact absurd rfl this
    · rw [h k hk]; decide
  · intro k hk
    have hk := List.mem_range.mp hk
    have h1 : k < xs.length := by omega
    have h2 : k + 1 < xs.length := by omega
    have e2 := ix_get h2
    rw [Int.natCast_add] at e2
    have e2 : dIx (.tuple xs) (.int ((k : Int) + 1)) = _ := e2
    have e3 : ((k : Int) + 1 - 1) = (k : Int) := by omega
    simp -implicitDefEqProofs only [PL.bin, PL.un, PL.call, PL.ap0, PL.ap1, PL.ap2, PL.ap3, PL.ap4, PL.ap5, PL.ap6, PL.con, PL.blt, PL.tup, PL.lst, PL.lcP, PL.items, itemsOf, PL.sl, PL.bvP, PL.lvP, PL.kvP, p_vb, asI_i, PL.tgV, PL.tgO, PL.tgC, PL.tgT, PL.andP, PL.orP, PL.notP, PL.iteP, PL.isi, PL.cmp2, PL.appP, PL.thenR, PL.thenB, bind_r, bind_s, wp_ret, bind_ite, kv_of, kb_of, kl_of, kk_of, kf_v, kf_l, kk_val, e_chk, each_nil, each_cons, forN_nil, forN_cons, forB_nil, forB_cons, List.append_nil, List.nil_append, List.cons_append, List.length_cons, List.length_nil, Bool.false_eq_true, if_true, if_false, Bool.not_true, Bool.not_false, Nat.zero_add, Nat.le_refl, Nat.zero_le, isi_none, isi_bool, isi_int, isi_str, isi_list, isi_tuple, isi_dict, dIs, dIsNot, isn_none, isn_int, isn_bool, isn_str, isn_tup, isn_lst, isn_dict, decide_eq_true_eq, Bool.not_eq_true, Nat.reduceLeDiff, Nat.reduceAdd, Nat.reduceSub, reduceIte, ite_self, e2, dSub_int, e3, ix_get h1, h k h2]
  · intro k _ _; rfl
end
/-- ascending ints -/
def upB (l : List Int) : Bool := (List.range (l.length - 1)).all fun k => decide (l.getD k 0 < l.getD (k + 1) 0)
theorem iL_get {l : List Int} {k : Nat} (h : k < (iL l).length) : (iL l)[k] = .int (l.getD k 0) := by
  have h' : k < l.length := by rwa [iL, List.length_map] at h
  have : (iL l)[k] = .int l[k] := by simp only [iL, List.getElem_map]
  rw [this, List.getD_eq_getElem?_getD, List.getElem?_eq_getElem h']; rfl
theorem lt_ints (l : List Int) : ∀ (k : Nat) (h : k + 1 < (iL l).length), dLt (iL l)[k] (iL l)[k + 1] = .ret (.v (.bool (decide (l.getD k 0 < l.getD (k + 1) 0)))) := fun k h => by
  rw [iL_get h, iL_get (k := k) (by omega)]; rfl
theorem rises_int {l : List Int} (hl : l.length ≤ 100000) : p_rises (.tuple (iL l)) = .ret (upB l) := by
  rw [rises_gen (by rw [iL, List.length_map]; exact hl) (lt_ints l), iL, List.length_map]; rfl
theorem is_up_int {l : List Int} (hl : l.length ≤ 100000) : p_law_is_up (.tuple (iL l)) = .ret (upB l) := by
  rw [is_up_gen (by rw [iL, List.length_map]; exact hl) (lt_ints l), iL, List.length_map]; rfl
theorem upB_pair {l : List Int} (h : upB l = true) : ∀ {i j : Nat} (hi : i < j) (hj : j < l.length), l.getD i 0 < l.getD j 0 := by
  intro i j
  induction j with
  | zero => intro h1; omega
  | succ j ih =>
    intro h1 h2
    have s := of_decide_eq_true (List.all_eq_true.mp h j (List.mem_range.mpr (by omega)))
    by_cases e : i = j
    · subst e; exact s
    · have := ih (by omega) (by omega)
      omega
/-- the ints of a row -/
def rowS (v : DL.D) (lo hi : Int) : Bool := match v with
  | .tuple xs => (match intsD xs with | some l => (l.all fun i => decide (lo ≤ i ∧ i ≤ hi)) && upB l | none => false)
  | _ => false
theorem inR_ints : ∀ (xs : List DL.D) (lo hi : Int), (xs.all fun x => DL.inR x lo hi) = (match intsD xs with | some l => l.all fun i => decide (lo ≤ i ∧ i ≤ hi) | none => false)
  | [], _, _ => rfl
  | x :: xs, lo, hi => by
    rw [List.all_cons, inR_ints xs lo hi]
    cases x with
    | int i =>
      rw [intsD]
      show ((decide (lo ≤ i) && decide (i ≤ hi)) && _) = _
      cases intsD xs with
      | none => exact Bool.and_false _
      | some l =>
        show _ = ((i :: l).all fun i => decide (lo ≤ i ∧ i ≤ hi))
        rw [List.all_cons, ← Bool.decide_and]
    | _ => rfl
theorem intsD_eq : ∀ {xs : List DL.D} {l : List Int}, intsD xs = some l → xs = iL l
  | [], l, h => by cases h; rfl
  | x :: xs, l, h => by
    cases x with
    | int i =>
      rw [intsD] at h
      cases e : intsD xs with
      | none => rw [e] at h; cases h
      | some l' => rw [e] at h; cases h; rw [intsD_eq e]; rfl
    | _ => cases h
theorem rowS_some {v : DL.D} {lo hi : Int} (h : rowS v lo hi = true) : ∃ l : List Int, v = .tuple (iL l) ∧ (∀ i ∈ l, lo ≤ i ∧ i ≤ hi) ∧ upB l = true := by
  unfold rowS at h
  split at h
  · rename_i xs
    split at h
    · rename_i l e
      rw [Bool.and_eq_true] at h
      exact ⟨l, by rw [intsD_eq e], fun i hi => of_decide_eq_true (List.all_eq_true.mp h.1 i hi), h.2⟩
    · cases h
  · cases h
theorem rowS_int (l : List Int) (lo hi : Int) : rowS (.tuple (iL l)) lo hi = ((l.all fun i => decide (lo ≤ i ∧ i ≤ hi)) && upB l) := by
  show (match intsD (iL l) with | some l => (l.all fun i => decide (lo ≤ i ∧ i ≤ hi)) && upB l | none => false) = _
  rw [iL, ints_of]
theorem rowB_ints (xs : List DL.D) (lo hi : Int) : DL.rowB (.tuple xs) lo hi = (match intsD xs with | some l => l.all fun i => decide (lo ≤ i ∧ i ≤ hi) | none => false) := by
  rw [← inR_ints]; rfl
theorem ite_and (a b : Bool) : (if a = true then T.ret b else T.ret false) = T.ret (a && b) := by cases a <;> rfl
theorem rising_row_is {v : DL.D} (hv : lenOk v = true) (lo hi : Int) : p_is_rising_row v (.int lo) (.int hi) = .ret (rowS v lo hi) := by
  simp -implicitDefEqProofs only [p_is_rising_row, PL.bin, PL.un, PL.call, PL.ap0, PL.ap1, PL.ap2, PL.ap3, PL.ap4, PL.ap5, PL.ap6, PL.con, PL.blt, PL.tup, PL.lst, PL.lcP, PL.items, itemsOf, PL.sl, PL.bvP, PL.lvP, PL.kvP, p_vb, asI_i, PL.tgV, PL.tgO, PL.tgC, PL.tgT, PL.andP, PL.orP, PL.notP, PL.iteP, PL.isi, PL.cmp2, PL.appP, PL.thenR, PL.thenB, bind_r, bind_s, wp_ret, bind_ite, kv_of, kb_of, kl_of, kk_of, kf_v, kf_l, kk_val, e_chk, each_nil, each_cons, forN_nil, forN_cons, forB_nil, forB_cons, List.append_nil, List.nil_append, List.cons_append, List.length_cons, List.length_nil, Bool.false_eq_true, if_true, if_false, Bool.not_true, Bool.not_false, Nat.zero_add, Nat.le_refl, Nat.zero_le, isi_none, isi_bool, isi_int, isi_str, isi_list, isi_tuple, isi_dict, dIs, dIsNot, isn_none, isn_int, isn_bool, isn_str, isn_tup, isn_lst, isn_dict, decide_eq_true_eq, Bool.not_eq_true, Nat.reduceLeDiff, Nat.reduceAdd, Nat.reduceSub, reduceIte, ite_self, h_some_row, hv]
  cases v with
  | tuple xs =>
    rw [rowB_ints]
    have hl := lenOk_inv hv xs rfl
    unfold rowS
    cases e : intsD xs with
    | none => simp -implicitDefEqProofs only [PL.bin, PL.un, PL.call, PL.ap0, PL.ap1, PL.ap2, PL.ap3, PL.ap4, PL.ap5, PL.ap6, PL.con, PL.blt, PL.tup, PL.lst, PL.lcP, PL.items, itemsOf, PL.sl, PL.bvP, PL.lvP, PL.kvP, p_vb, asI_i, PL.tgV, PL.tgO, PL.tgC, PL.tgT, PL.andP, PL.orP, PL.notP, PL.iteP, PL.isi, PL.cmp2, PL.appP, PL.thenR, PL.thenB, bind_r, bind_s, wp_ret, bind_ite, kv_of, kb_of, kl_of, kk_of, kf_v, kf_l, kk_val, e_chk, each_nil, each_cons, forN_nil, forN_cons, forB_nil, forB_cons, List.append_nil, List.nil_append, List.cons_append, List.length_cons, List.length_nil, Bool.false_eq_true, if_true, if_false, Bool.not_true, Bool.not_false, Nat.zero_add, Nat.le_refl, Nat.zero_le, isi_none, isi_bool, isi_int, isi_str, isi_list, isi_tuple, isi_dict, dIs, dIsNot, isn_none, isn_int, isn_bool, isn_str, isn_tup, isn_lst, isn_dict, decide_eq_true_eq, Bool.not_eq_true, Nat.reduceLeDiff, Nat.reduceAdd, Nat.reduceSub, reduceIte, ite_self, e]
    | some l =>
      have ex := intsD_eq e
      subst ex
      rw [rises_int (by rwa [iL, List.length_map] at hl)]
      simp only [e]
      exact ite_and _ _
  | _ => rfl
theorem up_row_is {v : DL.D} (hv : lenOk v = true) (lo hi : Int) : p_law_up_row v (.int lo) (.int hi) = .ret (rowS v lo hi) := by
  simp -implicitDefEqProofs only [p_law_up_row, PL.bin, PL.un, PL.call, PL.ap0, PL.ap1, PL.ap2, PL.ap3, PL.ap4, PL.ap5, PL.ap6, PL.con, PL.blt, PL.tup, PL.lst, PL.lcP, PL.items, itemsOf, PL.sl, PL.bvP, PL.lvP, PL.kvP, p_vb, asI_i, PL.tgV, PL.tgO, PL.tgC, PL.tgT, PL.andP, PL.orP, PL.notP, PL.iteP, PL.isi, PL.cmp2, PL.appP, PL.thenR, PL.thenB, bind_r, bind_s, wp_ret, bind_ite, kv_of, kb_of, kl_of, kk_of, kf_v, kf_l, kk_val, e_chk, each_nil, each_cons, forN_nil, forN_cons, forB_nil, forB_cons, List.append_nil, List.nil_append, List.cons_append, List.length_cons, List.length_nil, Bool.false_eq_true, if_true, if_false, Bool.not_true, Bool.not_false, Nat.zero_add, Nat.le_refl, Nat.zero_le, isi_none, isi_bool, isi_int, isi_str, isi_list, isi_tuple, isi_dict, dIs, dIsNot, isn_none, isn_int, isn_bool, isn_str, isn_tup, isn_lst, isn_dict, decide_eq_true_eq, Bool.not_eq_true, Nat.reduceLeDiff, Nat.reduceAdd, Nat.reduceSub, reduceIte, ite_self, h_lrow, hv]
  cases v with
  | tuple xs =>
    rw [rowB_ints]
    have hl := lenOk_inv hv xs rfl
    unfold rowS
    cases e : intsD xs with
    | none => simp -implicitDefEqProofs only [PL.bin, PL.un, PL.call, PL.ap0, PL.ap1, PL.ap2, PL.ap3, PL.ap4, PL.ap5, PL.ap6, PL.con, PL.blt, PL.tup, PL.lst, PL.lcP, PL.items, itemsOf, PL.sl, PL.bvP, PL.lvP, PL.kvP, p_vb, asI_i, PL.tgV, PL.tgO, PL.tgC, PL.tgT, PL.andP, PL.orP, PL.notP, PL.iteP, PL.isi, PL.cmp2, PL.appP, PL.thenR, PL.thenB, bind_r, bind_s, wp_ret, bind_ite, kv_of, kb_of, kl_of, kk_of, kf_v, kf_l, kk_val, e_chk, each_nil, each_cons, forN_nil, forN_cons, forB_nil, forB_cons, List.append_nil, List.nil_append, List.cons_append, List.length_cons, List.length_nil, Bool.false_eq_true, if_true, if_false, Bool.not_true, Bool.not_false, Nat.zero_add, Nat.le_refl, Nat.zero_le, isi_none, isi_bool, isi_int, isi_str, isi_list, isi_tuple, isi_dict, dIs, dIsNot, isn_none, isn_int, isn_bool, isn_str, isn_tup, isn_lst, isn_dict, decide_eq_true_eq, Bool.not_eq_true, Nat.reduceLeDiff, Nat.reduceAdd, Nat.reduceSub, reduceIte, ite_self, e]
    | some l =>
      have ex := intsD_eq e
      subst ex
      rw [is_up_int (by rwa [iL, List.length_map] at hl)]
      simp only [e]
      exact ite_and _ _
  | _ => rfl
/-! ### parts of a fine value -/
theorem wt_get {xs : List DL.D} {k : Nat} {x : DL.D} (h : xs[k]? = some x) : wt x ≤ wtA xs := by
  induction xs generalizing k with
  | nil => simp at h
  | cons y ys ih =>
    rw [wtA]
    cases k with
    | zero => simp at h; subst h; omega
    | succ k => have := ih (k := k) (by simpa using h); omega
theorem lenOk_part {xs : List DL.D} {k : Nat} {x : DL.D} (hv : wt (.tuple xs) ≤ 100000) (h : xs[k]? = some x) : lenOk x = true := by
  refine lenOk_w (Nat.le_trans (wt_get h) ?_)
  have : wt (.tuple xs) = wtA xs + 8 := by rw [wt]
  omega
theorem Fine.lenOk {v : DL.D} (h : Fine v) : PL.lenOk v = true := lenOk_w h.2
theorem Fine.part {xs : List DL.D} {k : Nat} {x : DL.D} (hv : Fine (.tuple xs)) (h : xs[k]? = some x) : PL.lenOk x = true := lenOk_part hv.2 h
/-! ### loops over a range -/
theorem upto_succ (m : Nat) : upto (m + 1) = upto m ++ [(m : Int)] := by unfold upto; rw [List.range_succ, List.map_append]; rfl
theorem forN_append {ι S U : Type} {F : ι → T U} {f : S → U → T S} : ∀ (l k : List ι) (s : S), forN F f s (l ++ k) = (forN F f s l).bind fun s' => forN F f s' k
  | [], _, _ => rfl
  | a :: l, k, s => by
    rw [List.cons_append, forN_cons, forN_cons, T.bind_assoc]
    refine congrArg (T.bind (F a)) (funext fun u => ?_)
    rw [T.bind_assoc]
    exact congrArg (T.bind (f s u)) (funext fun s' => forN_append l k s')
theorem forN_up {S : Type} {f : S → DL.D → T S} (N : Nat) (st : Nat → S) {s : S} (h0 : s = st 0) (h : ∀ m, m < N → f (st m) (.int (m : Int)) = .ret (st (m + 1))) : forN tgV f s (iL (upto N)) = .ret (st N) := by
  induction N with
  | zero => rw [h0]; rfl
  | succ N ih =>
    rw [upto_succ, iL, List.map_append]
    rw [forN_append, ih fun m hm => h m (by omega), bind_r]
    show ((T.ret (PyData.int (N : Int))).bind fun u => (f (st N) u).bind fun s' => T.ret s') = _
    rw [bind_r, h N (by omega), bind_r]
/-- over a list of ints, by what was walked already -/
theorem forN_ints {S : Type} {f : S → DL.D → T S} (g : S → Int → S) (l : List Int) {s : S} (h : ∀ i ∈ l, ∀ s, f s (.int i) = .ret (g s i)) : forN tgV f s (iL l) = .ret (l.foldl g s) := by
  induction l generalizing s with
  | nil => rfl
  | cons i l ih =>
    show ((T.ret (PyData.int i)).bind fun u => (f s u).bind fun s' => forN tgV f s' (iL l)) = _
    rw [bind_r, h i List.mem_cons_self, bind_r, ih fun j hj => h j (List.mem_cons_of_mem _ hj)]; rfl
/-! ### rows that are drawn -/
theorem each_sub {t : DL.D → T Bool} {l : List Int} (h : ∀ i ∈ l, (t (.int i)).wp fun _ => True) : (each tgV t (fun k => T.ret k) (iL l)).wp fun r => ∃ l', l'.Sublist l ∧ r = iL l' := by
  induction l with
  | nil => exact ⟨[], List.Sublist.refl _, rfl⟩
  | cons i l ih =>
    have ih := ih fun j hj => h j (List.mem_cons_of_mem _ hj)
    show ((T.ret (PyData.int i)).bind fun s => (t s).bind fun b => if b = true then (T.ret s).bind fun y => (each tgV t (fun k => T.ret k) (iL l)).bind fun l => T.ret (y :: l) else each tgV t (fun k => T.ret k) (iL l)).wp _
    rw [bind_r, T.wp_bind]
    refine T.wp_mono (h i List.mem_cons_self) fun b _ => ?_
    cases b with
    | false =>
      rw [if_neg (by decide)]
      exact T.wp_mono ih fun r ⟨l', h1, h2⟩ => ⟨l', h1.cons _, h2⟩
    | true =>
      rw [if_pos rfl, bind_r, T.wp_bind]
      exact T.wp_mono ih fun r ⟨l', h1, h2⟩ => ⟨i :: l', h1.cons_cons _, by rw [h2]; rfl⟩
theorem some_wp {m t : Int} (h0 : 0 ≤ m) (h1 : m ≤ 10000) (t0 : 0 < t) (t1 : t ≤ 1000000000) : (p_law_some (.int m) (.int t)).wp fun d => ∃ l : List Int, d = .tuple (iL l) ∧ l.Sublist (upto m.toNat) := by
  have hu : (upto m.toNat).length ≤ 100000 := by rw [upto_len]; omega
  simp -implicitDefEqProofs only [p_law_some, PL.bin, PL.un, PL.call, PL.ap0, PL.ap1, PL.ap2, PL.ap3, PL.ap4, PL.ap5, PL.ap6, PL.con, PL.blt, PL.tup, PL.lst, PL.lcP, PL.items, itemsOf, PL.sl, PL.bvP, PL.lvP, PL.kvP, p_vb, asI_i, PL.tgV, PL.tgO, PL.tgC, PL.tgT, PL.andP, PL.orP, PL.notP, PL.iteP, PL.isi, PL.cmp2, PL.appP, PL.thenR, PL.thenB, bind_r, bind_s, wp_ret, bind_ite, kv_of, kb_of, kl_of, kk_of, kf_v, kf_l, kk_val, e_chk, each_nil, each_cons, forN_nil, forN_cons, forB_nil, forB_cons, List.append_nil, List.nil_append, List.cons_append, List.length_cons, List.length_nil, Bool.false_eq_true, if_true, if_false, Bool.not_true, Bool.not_false, Nat.zero_add, Nat.le_refl, Nat.zero_le, isi_none, isi_bool, isi_int, isi_str, isi_list, isi_tuple, isi_dict, dIs, dIsNot, isn_none, isn_int, isn_bool, isn_str, isn_tup, isn_lst, isn_dict, decide_eq_true_eq, Bool.not_eq_true, Nat.reduceLeDiff, Nat.reduceAdd, Nat.reduceSub, reduceIte, ite_self, rng1_up h0 (by omega : m ≤ 1000000), List.length_map, hu]
  repeat rw [T.wp_bind]
  refine T.wp_mono (each_sub fun i _ => ?_) fun r ⟨l, h1, h2⟩ => ?_
  · repeat rw [T.wp_bind]
    refine draw_wp t0 t1 fun j _ _ => ?_
    simp -implicitDefEqProofs only [PL.bin, PL.un, PL.call, PL.ap0, PL.ap1, PL.ap2, PL.ap3, PL.ap4, PL.ap5, PL.ap6, PL.con, PL.blt, PL.tup, PL.lst, PL.lcP, PL.items, itemsOf, PL.sl, PL.bvP, PL.lvP, PL.kvP, p_vb, asI_i, PL.tgV, PL.tgO, PL.tgC, PL.tgT, PL.andP, PL.orP, PL.notP, PL.iteP, PL.isi, PL.cmp2, PL.appP, PL.thenR, PL.thenB, bind_r, bind_s, wp_ret, bind_ite, kv_of, kb_of, kl_of, kk_of, kf_v, kf_l, kk_val, e_chk, each_nil, each_cons, forN_nil, forN_cons, forB_nil, forB_cons, List.append_nil, List.nil_append, List.cons_append, List.length_cons, List.length_nil, Bool.false_eq_true, if_true, if_false, Bool.not_true, Bool.not_false, Nat.zero_add, Nat.le_refl, Nat.zero_le, isi_none, isi_bool, isi_int, isi_str, isi_list, isi_tuple, isi_dict, dIs, dIsNot, isn_none, isn_int, isn_bool, isn_str, isn_tup, isn_lst, isn_dict, decide_eq_true_eq, Bool.not_eq_true, Nat.reduceLeDiff, Nat.reduceAdd, Nat.reduceSub, reduceIte, ite_self, dEq_int]
  · subst h2
    simp -implicitDefEqProofs only [PL.bin, PL.un, PL.call, PL.ap0, PL.ap1, PL.ap2, PL.ap3, PL.ap4, PL.ap5, PL.ap6, PL.con, PL.blt, PL.tup, PL.lst, PL.lcP, PL.items, itemsOf, PL.sl, PL.bvP, PL.lvP, PL.kvP, p_vb, asI_i, PL.tgV, PL.tgO, PL.tgC, PL.tgT, PL.andP, PL.orP, PL.notP, PL.iteP, PL.isi, PL.cmp2, PL.appP, PL.thenR, PL.thenB, bind_r, bind_s, wp_ret, bind_ite, kv_of, kb_of, kl_of, kk_of, kf_v, kf_l, kk_val, e_chk, each_nil, each_cons, forN_nil, forN_cons, forB_nil, forB_cons, List.append_nil, List.nil_append, List.cons_append, List.length_cons, List.length_nil, Bool.false_eq_true, if_true, if_false, Bool.not_true, Bool.not_false, Nat.zero_add, Nat.le_refl, Nat.zero_le, isi_none, isi_bool, isi_int, isi_str, isi_list, isi_tuple, isi_dict, dIs, dIsNot, isn_none, isn_int, isn_bool, isn_str, isn_tup, isn_lst, isn_dict, decide_eq_true_eq, Bool.not_eq_true, Nat.reduceLeDiff, Nat.reduceAdd, Nat.reduceSub, reduceIte, ite_self, bTuple_list]
    exact ⟨l, rfl, h1⟩
theorem upto_up (n : Nat) : (upto n).Pairwise (· < ·) := by
  unfold upto
  exact List.pairwise_map.mpr (List.pairwise_lt_range.imp fun h => by omega)
theorem upB_of {l : List Int} (h : l.Pairwise (· < ·)) : upB l = true := by
  refine List.all_eq_true.mpr fun k hk => decide_eq_true ?_
  have hk := List.mem_range.mp hk
  have h1 : k < l.length := by omega
  have h2 : k + 1 < l.length := by omega
  rw [List.getD_eq_getElem?_getD, List.getD_eq_getElem?_getD, List.getElem?_eq_getElem h1, List.getElem?_eq_getElem h2]
  exact List.pairwise_iff_getElem.mp h k (k + 1) h1 h2 (by omega)
theorem up_of {l : List Int} (h : upB l = true) : l.Pairwise (· < ·) := by
  refine List.pairwise_iff_getElem.mpr fun i j hi hj hij => ?_
  have := upB_pair h hij hj
  rwa [List.getD_eq_getElem?_getD, List.getD_eq_getElem?_getD, List.getElem?_eq_getElem hi, List.getElem?_eq_getElem hj] at this
theorem rowS_of {l : List Int} {lo hi : Int} (h : ∀ i ∈ l, lo ≤ i ∧ i ≤ hi) (u : l.Pairwise (· < ·)) : rowS (.tuple (iL l)) lo hi = true := by
  rw [rowS_int, upB_of u, Bool.and_true]
  exact List.all_eq_true.mpr fun i hi => decide_eq_true (h i hi)
/-! ### bounds of rows -/
theorem wtA_ints (l : List Int) : wtA (iL l) = 82 * l.length := by
  induction l with
  | nil => rfl
  | cons i l ih => rw [iL, List.map_cons, wtA, ih, wt, List.length_cons]; omega
theorem bd_ints {B h : Nat} {l : List Int} (hl : ∀ i ∈ l, i.natAbs ≤ B) : Bd B (h + 1) (.tuple (iL l)) := fun x hx => by
  obtain ⟨i, hi, rfl⟩ := List.mem_map.mp hx
  cases h <;> exact hl i hi
theorem up_len {l : List Int} {n : Nat} (u : l.Pairwise (· < ·)) (h : ∀ i ∈ l, 0 ≤ i ∧ i < n) : l.length ≤ n := by
  have := nodup_le n (l.map Int.toNat) (List.pairwise_map.mpr (u.imp_of_mem fun {a b} ha hb ab => by have := h a ha; have := h b hb; omega)) fun x hx => by
    obtain ⟨i, hi, rfl⟩ := List.mem_map.mp hx
    have := h i hi; omega
  rwa [List.length_map] at this
/-! ### sorted rows of pairs -/
theorem sorted_map {α : Type} (φ : α → DL.D) (l : List α) : DL.sorted (l.map φ) = (l.mergeSort fun a b => PySem.W.dataLe false id (φ a) (φ b)).map φ := (List.map_mergeSort (r := fun a b => PySem.W.dataLe false id (φ a) (φ b)) (s := PySem.W.dataLe false id) (f := φ) (fun _ _ _ _ => rfl)).symm
theorem sortOk_pairs {l : List (Int × Int)} (hl : l.length ≤ 100000) : sortOk (l.map movD) = true := by
  unfold sortOk
  have h1 : ((l.map movD).all fun d => (l.map movD).all fun e => PySem.W.alike d e) = true := List.all_eq_true.mpr fun d hd => List.all_eq_true.mpr fun e he => by
    obtain ⟨a, _, rfl⟩ := List.mem_map.mp hd
    obtain ⟨b, _, rfl⟩ := List.mem_map.mp he
    rfl
  have h2 : (l.map movD).all isTC = true := List.all_eq_true.mpr fun d hd => by
    obtain ⟨a, _, rfl⟩ := List.mem_map.mp hd
    rfl
  have h3 : ((l.map movD).all fun d => decide (d.depth ≤ 100)) = true := List.all_eq_true.mpr fun d hd => by
    obtain ⟨a, _, rfl⟩ := List.mem_map.mp hd
    exact decide_eq_true (by show PyData.depth (.tuple [.int a.1, .int a.2]) ≤ 100; simp only [PyData.depth, PyData.depthAll]; decide)
  rw [h1, h2, h3, decide_eq_true (by rwa [List.length_map])]; rfl
end PL

set_option pp.maxSteps 800
namespace PL
open PySem PySem.Spec PyProof.Rows L2 DL DL.Sc
/-! ### faults -/
def form : DL.D := .tuple [.str "form", .int 0]
def fin (a b : DL.D) : DL.D := if isNone a = true then b else a
theorem isNone_iff {d : DL.D} : isNone d = true ↔ d = .none := by cases d <;> simp [isNone]
theorem firstO_cons (a : DL.D) (l : List DL.D) : firstO (a :: l) = fin a (firstO l) := by
  unfold firstO fin
  rw [List.find?_cons]
  cases h : isNone a <;> rfl
theorem firstO_nil : firstO [] = .none := rfl
theorem fin_none (a : DL.D) : fin a .none = a := by
  unfold fin
  split
  · rename_i h; exact (isNone_iff.mp h).symm
  · rfl
theorem first_of1 (a : DL.D) : p_first_of (.list [a]) = .ret a := by rw [first_of_is, firstO_cons, firstO_nil, fin_none]
theorem first_of2 (a b : DL.D) : p_first_of (.list [a, b]) = .ret (fin a b) := by rw [first_of_is, firstO_cons, firstO_cons, firstO_nil, fin_none]
theorem first_of3 (a b c : DL.D) : p_first_of (.list [a, b, c]) = .ret (fin a (fin b c)) := by rw [first_of_is, firstO_cons, firstO_cons, firstO_cons, firstO_nil, fin_none]
theorem firstP_cons (w : Str) (d : DL.D) (l : List (DL.D × DL.D)) : firstP ((.str w, d) :: l) = fin (fau w d) (firstP l) := by
  unfold fin fau
  rw [firstP]
  cases h : isNone d <;> rfl
theorem law_first1 (w : Str) (a : DL.D) : p_law_first (.list [.tuple [.str w, a]]) = .ret (fau w a) := by
  refine (law_first_is [(.str w, a)]).trans ?_
  rw [firstP_cons, firstP, fin_none]
theorem law_first2 (w x : Str) (a b : DL.D) : p_law_first (.list [.tuple [.str w, a], .tuple [.str x, b]]) = .ret (fin (fau w a) (fau x b)) := by
  refine (law_first_is [(.str w, a), (.str x, b)]).trans ?_
  rw [firstP_cons, firstP_cons, firstP, fin_none]
theorem law_first3 (w x y : Str) (a b c : DL.D) : p_law_first (.list [.tuple [.str w, a], .tuple [.str x, b], .tuple [.str y, c]]) = .ret (fin (fau w a) (fin (fau x b) (fau y c))) := by
  refine (law_first_is [(.str w, a), (.str x, b), (.str y, c)]).trans ?_
  rw [firstP_cons, firstP_cons, firstP_cons, firstP, fin_none]
theorem fau_none (w : Str) : fau w .none = .none := rfl
theorem fau_int (w : Str) (i : Int) : fau w (.int i) = .tuple [.str w, .int i] := rfl
/-- faults of the shape that the document tells -/
inductive Flt : DL.D → Prop
  | none : Flt .none
  | at (w : Str) (i : Int) : (∀ c ∈ w.cps.toList, c < 16 ^ 8) → w.length ≤ 20 → Flt (.tuple [.str w, .int i])
theorem Flt.bd {d : DL.D} (h : Flt d) : ∃ B, Bd B 2 d ∧ wt d ≤ 50000 := by
  cases h with
  | none => exact ⟨0, trivial, by simp only [wt]; decide⟩
  | «at» w i h1 h2 => exact ⟨i.natAbs, List.forall_mem_cons.mpr ⟨h1, List.forall_mem_cons.mpr ⟨Nat.le_refl _, fun _ z => nomatch z⟩⟩, by simp only [wt, wtA]; omega⟩
theorem Flt.fin {a b : DL.D} (ha : Flt a) (hb : Flt b) : Flt (PL.fin a b) := by unfold PL.fin; split; exact hb; exact ha
theorem Flt.form : Flt PL.form := .at _ _ (by decide) (by decide)
/-- none or a place -/
inductive Plc : DL.D → Prop
  | none : Plc .none
  | int (i : Int) : Plc (.int i)
theorem Plc.fau {d : DL.D} (h : Plc d) {w : Str} (h1 : ∀ c ∈ w.cps.toList, c < 16 ^ 8) (h2 : w.length ≤ 20) : Flt (PL.fau w d) := by
  cases h with
  | none => exact .none
  | int i => exact .at w i h1 h2
theorem firstI_plc (n : Nat) (c : Nat → Bool) : Plc (firstI n c) := by unfold firstI; split; exact .int _; exact .none
theorem Plc.ite {c : Prop} [Decidable c] {a b : DL.D} (ha : Plc a) (hb : Plc b) : Plc (if c then a else b) := by split; exact ha; exact hb
/-! ### named tuples -/
theorem nm2 (s : Str) (u : DL.D) (w : Str) : named (.tuple [.str s, u]) w 2 = decide (s = w) := by unfold named; simp only [List.length_cons, List.length_nil, decide_true, Bool.true_and]
theorem nm3 (s : Str) (u x : DL.D) (w : Str) : named (.tuple [.str s, u, x]) w 3 = decide (s = w) := by unfold named; simp only [List.length_cons, List.length_nil, decide_true, Bool.true_and]
theorem nm23 (s : Str) (u : DL.D) (w : Str) : named (.tuple [.str s, u]) w 3 = false := rfl
theorem nm32 (s : Str) (u x : DL.D) (w : Str) : named (.tuple [.str s, u, x]) w 2 = false := rfl
theorem len2 {r : List DL.D} (h : r.length + 1 = 2) : ∃ u, r = [u] := by
  match r, h with
  | [u], _ => exact ⟨u, rfl⟩
theorem len3 {r : List DL.D} (h : r.length + 1 = 3) : ∃ u x, r = [u, x] := by
  match r, h with
  | [u, x], _ => exact ⟨u, x, rfl⟩
theorem named2 {v : DL.D} {w : Str} (h : named v w 2 = true) : ∃ u, v = .tuple [.str w, u] := by
  obtain ⟨r, rfl, e⟩ := named_iff.mp h
  obtain ⟨u, rfl⟩ := len2 e
  exact ⟨u, rfl⟩
theorem named3 {v : DL.D} {w : Str} (h : named v w 3 = true) : ∃ u x, v = .tuple [.str w, u, x] := by
  obtain ⟨r, rfl, e⟩ := named_iff.mp h
  obtain ⟨u, x, rfl⟩ := len3 e
  exact ⟨u, x, rfl⟩
theorem p2 : (0 : Int) < 2 := by decide
theorem p3 : (0 : Int) < 3 := by decide
theorem t2 : (2 : Int).toNat = 2 := rfl
theorem t3 : (3 : Int).toNat = 3 := rfl
theorem i20 {s u : DL.D} : dIx (.tuple [s, u]) (.int 0) = .ret (.v s) := dIx_tup (i := 0) rfl
theorem i21 {s u : DL.D} : dIx (.tuple [s, u]) (.int 1) = .ret (.v u) := dIx_tup (i := 1) rfl
theorem i30 {s u x : DL.D} : dIx (.tuple [s, u, x]) (.int 0) = .ret (.v s) := dIx_tup (i := 0) rfl
theorem i31 {s u x : DL.D} : dIx (.tuple [s, u, x]) (.int 1) = .ret (.v u) := dIx_tup (i := 1) rfl
theorem i32 {s u x : DL.D} : dIx (.tuple [s, u, x]) (.int 2) = .ret (.v x) := dIx_tup (i := 2) rfl
theorem inR_some {u : DL.D} {lo hi : Int} (h : DL.inR u lo hi = true) : ∃ i, u = .int i ∧ lo ≤ i ∧ i ≤ hi := by
  unfold DL.inR at h
  split at h
  · rename_i i
    rw [Bool.and_eq_true] at h
    exact ⟨i, rfl, of_decide_eq_true h.1, of_decide_eq_true h.2⟩
  · cases h
/-- the last of a tuple -/
theorem neg1 : un KV dNeg (T.ret (.int 1 : DL.D)) = .ret (.int (-1)) := rfl
theorem ix_last2 {s u : DL.D} : dIx (.tuple [s, u]) (.int (-1)) = .ret (.v u) := rfl
theorem ix_last3 {s u x : DL.D} : dIx (.tuple [s, u, x]) (.int (-1)) = .ret (.v x) := rfl
theorem cut_last {xs : List DL.D} : DL.cutD xs none (some (-1)) = xs.take (xs.length - 1) := by
  unfold DL.cutD HT.sIx
  simp
  try omega
theorem cut_first {xs : List DL.D} : DL.cutD xs (some 1) none = xs.drop 1 := cut_hi (i := 1) (by decide)
/-! ### fine values -/
theorem wts (w : Str) (h : w.length ≤ 20) : wt (.str w) ≤ 208 := by rw [wt]; omega
theorem fine_row2 {w : Str} {l : List Int} (h1 : strOk w) (h2 : w.length ≤ 20) (hl : ∀ i ∈ l, i.natAbs ≤ 100000) (hn : l.length ≤ 1000) : Fine (.tuple [.str w, .tuple (iL l)]) :=
  Bd.fine (B := 100000) (h := 2) (by decide) (List.forall_mem_cons.mpr ⟨h1, List.forall_mem_cons.mpr ⟨bd_ints (h := 0) hl, fun _ z => nomatch z⟩⟩) (by decide) (by
    have := wts w h2
    have := wtA_ints l
    simp only [wt, wtA] at *; omega)
theorem fine_row3 {w : Str} {j : Int} {l : List Int} (h1 : strOk w) (h2 : w.length ≤ 20) (hj : j.natAbs ≤ 100000) (hl : ∀ i ∈ l, i.natAbs ≤ 100000) (hn : l.length ≤ 1000) : Fine (.tuple [.str w, .int j, .tuple (iL l)]) :=
  Bd.fine (B := 100000) (h := 2) (by decide) (List.forall_mem_cons.mpr ⟨h1, List.forall_mem_cons.mpr ⟨hj, List.forall_mem_cons.mpr ⟨bd_ints (h := 0) hl, fun _ z => nomatch z⟩⟩⟩) (by decide) (by
    have := wts w h2
    have := wtA_ints l
    simp only [wt, wtA] at *; omega)
/-! ### rows of pairs -/
def lexP (p q : Int × Int) : Bool := HT.lexLt [p.1, p.2] [q.1, q.2]
def upP (l : List (Int × Int)) : Bool := (List.range (l.length - 1)).all fun k => lexP (l.getD k (0, 0)) (l.getD (k + 1) (0, 0))
theorem mv_get {l : List (Int × Int)} {k : Nat} (h : k < (l.map movD).length) : (l.map movD)[k] = movD (l.getD k (0, 0)) := by
  have h' : k < l.length := by rwa [List.length_map] at h
  rw [List.getElem_map, List.getD_eq_getElem?_getD, List.getElem?_eq_getElem h']; rfl
theorem lt_mv (p q : Int × Int) : dLt (movD p) (movD q) = .ret (.v (.bool (lexP p q))) := rfl
theorem lt_pairs (l : List (Int × Int)) : ∀ (k : Nat) (h : k + 1 < (l.map movD).length), dLt (l.map movD)[k] (l.map movD)[k + 1] = .ret (.v (.bool (lexP (l.getD k (0, 0)) (l.getD (k + 1) (0, 0))))) := fun k h => by
  rw [mv_get h, mv_get (k := k) (by omega), lt_mv]
theorem rises_pairs {l : List (Int × Int)} (hl : l.length ≤ 100000) : p_rises (.tuple (l.map movD)) = .ret (upP l) := by
  rw [rises_gen (by rw [List.length_map]; exact hl) (lt_pairs l), List.length_map]; rfl
theorem is_up_pairs {l : List (Int × Int)} (hl : l.length ≤ 100000) : p_law_is_up (.tuple (l.map movD)) = .ret (upP l) := by
  rw [is_up_gen (by rw [List.length_map]; exact hl) (lt_pairs l), List.length_map]; rfl
theorem m0 (p : Int × Int) : dIx (movD p) (.int 0) = .ret (.v (.int p.1)) := dIx_tup (i := 0) rfl
theorem m1 (p : Int × Int) : dIx (movD p) (.int 1) = .ret (.v (.int p.2)) := dIx_tup (i := 1) rfl
/-- all pairs of ints between -/
theorem rowI_pairs : ∀ (xs : List DL.D) (lo hi : Int), (xs.all fun x => rowI x 2 lo hi) = (match movOf xs with | some l => l.all fun p => decide (lo ≤ p.1 ∧ p.1 ≤ hi ∧ lo ≤ p.2 ∧ p.2 ≤ hi) | none => false)
  | [], _, _ => rfl
  | x :: xs, lo, hi => by
    have ih := rowI_pairs xs lo hi
    rw [List.all_cons, ih]
    by_cases h : ∃ a b : Int, x = .tuple [.int a, .int b]
    · obtain ⟨a, b, rfl⟩ := h
      have e : movOf (.tuple [.int a, .int b] :: xs) = (movOf xs).map ((a, b) :: ·) := rfl
      have e2 : rowI (.tuple [.int a, .int b]) 2 lo hi = decide (lo ≤ a ∧ a ≤ hi ∧ lo ≤ b ∧ b ≤ hi) := by
        show (decide ((2 : Int) = 2) && ((decide (lo ≤ a) && decide (a ≤ hi)) && ((decide (lo ≤ b) && decide (b ≤ hi)) && true))) = _
        rw [Bool.eq_iff_iff]; simp [and_assoc]
      rw [e, e2]
      cases movOf xs with
      | none => exact Bool.and_false _
      | some l => rfl
    · have e : movOf (x :: xs) = none := by
        unfold movOf
        split
        · rename_i z; cases z
        · rename_i a b r z
          injection z with z1 z2
          exact absurd ⟨a, b, z1⟩ h
        · rfl
      have e2 : rowI x 2 lo hi = false := by
        unfold rowI
        split
        · rename_i ys
          match ys with
          | [] => rfl
          | [_] => rfl
          | [u, w] =>
            cases u with
            | int a => cases w with
              | int b => exact absurd ⟨a, b, rfl⟩ h
              | _ => exact (by show (decide ((2 : Int) = 2) && (_ && (false && true))) = false; simp)
            | _ => exact (by show (decide ((2 : Int) = 2) && (false && _)) = false; simp)
          | _ :: _ :: _ :: r =>
            have : ¬ (((r.length + 3 : Nat) : Int) = 2) := by omega
            show (decide ((((r.length + 3 : Nat) : Int)) = 2) && _) = false
            rw [decide_eq_false this]; rfl
        · rfl
      rw [e, e2]; rfl
def pairsS (v : DL.D) (a b : Int) : Bool := match v with
  | .tuple xs => (match movOf xs with | some l => (l.all fun p => decide (0 ≤ p.1 ∧ p.1 < a ∧ 0 ≤ p.2 ∧ p.2 < b)) && upP l | none => false)
  | _ => false
theorem pairsS_some {v : DL.D} {a b : Int} (h : pairsS v a b = true) : ∃ l : List (Int × Int), v = .tuple (l.map movD) ∧ (∀ p ∈ l, 0 ≤ p.1 ∧ p.1 < a ∧ 0 ≤ p.2 ∧ p.2 < b) ∧ upP l = true := by
  unfold pairsS at h
  split at h
  · rename_i xs
    split at h
    · rename_i l e
      rw [Bool.and_eq_true] at h
      exact ⟨l, by rw [movOf_eq e], fun i hi => of_decide_eq_true (List.all_eq_true.mp h.1 i hi), h.2⟩
    · cases h
  · cases h
theorem each_rows {t : DL.D → T Bool} (xs : List DL.D) (b : DL.D → Bool) (hc : ∀ x ∈ xs, t x = .ret (b x)) : each tgV (fun _ => T.ret true) (fun x => (t x).bind fun c => T.ret (.bool c)) xs = .ret (xs.map fun x => .bool (b x)) := by
  have := each_dats (φ := id) (e := fun x => (t x).bind fun c => T.ret (.bool c)) xs (fun x => .bool (b x)) fun x hx => by simp only [id, hc x hx]; rfl
  rwa [List.map_id] at this
theorem each_filt {t : DL.D → T Bool} (xs : List DL.D) (b : DL.D → Bool) (hc : ∀ x ∈ xs, t x = .ret (b x)) : each tgV t (fun x => T.ret x) xs = .ret (xs.filter b) := by
  have := each_dat (φ := id) (t := t) (e := fun x => T.ret x) xs b id (fun x hx => by simp only [id, hc x hx]) fun _ _ _ => rfl
  rwa [List.map_id, List.map_id] at this
theorem none_len {α : Type} (l : List α) (b : α → Bool) : decide ((0 : Int) < (((l.filter b).length : Nat) : Int)) = l.any b := by
  induction l with
  | nil => rfl
  | cons m l ih =>
    rw [List.filter_cons, List.any_cons]
    cases e : b m with
    | true => rw [if_pos rfl, Bool.true_or]; exact decide_eq_true (by rw [List.length_cons]; omega)
    | false => rw [if_neg (by decide), Bool.false_or]; exact ih
theorem zero_len {α : Type} (l : List α) (b : α → Bool) : decide ((((l.filter b).length : Nat) : Int) = 0) = l.all fun x => !b x := by
  induction l with
  | nil => rfl
  | cons m l ih =>
    rw [List.filter_cons, List.all_cons]
    cases e : b m with
    | true => rw [if_pos rfl, Bool.not_true, Bool.false_and]; exact decide_eq_false (by rw [List.length_cons]; omega)
    | false => rw [if_neg (by decide), Bool.not_false, Bool.true_and]; exact ih
theorem movLen {xs : List DL.D} {l : List (Int × Int)} (e : movOf xs = some l) : xs.length = l.length := by rw [movOf_eq e, List.length_map]
theorem any_not {α : Type} (l : List α) (b : α → Bool) : (l.any fun x => !b x) = !l.all b := by
  induction l with
  | nil => rfl
  | cons x l ih => rw [List.any_cons, List.all_cons, ih, Bool.not_and]

theorem each_prs {t : DL.D × DL.D → T Bool} {e : DL.D × DL.D → T DL.D} (l : List (Int × Int)) (b : Int × Int → Bool) (g : Int × Int → DL.D) (hc : ∀ p ∈ l, t (.int p.1, .int p.2) = .ret (b p)) (he : ∀ p ∈ l, b p = true → e (.int p.1, .int p.2) = .ret (g p)) : each (tgT 2 (tgC tgV (tgO tgV))) t e (l.map movD) = .ret ((l.filter b).map g) := by
  rw [each_map]
  exact each_ret (s := fun p : Int × Int => ((.int p.1, .int p.2) : DL.D × DL.D)) l (fun _ _ => rfl) hc he
theorem each_prss {e : DL.D × DL.D → T DL.D} (l : List (Int × Int)) (g : Int × Int → DL.D) (he : ∀ p ∈ l, e (.int p.1, .int p.2) = .ret (g p)) : each (tgT 2 (tgC tgV (tgO tgV))) (fun _ => T.ret true) e (l.map movD) = .ret (l.map g) := by
  rw [each_prs l (fun _ => true) g (fun _ _ => rfl) fun i hi _ => he i hi, filt_true]
theorem fin_assoc (a b c : DL.D) : fin (fin a b) c = fin a (fin b c) := by
  unfold fin
  by_cases h : isNone a = true
  · rw [if_pos h, if_pos h]
  · rw [if_neg h, if_neg h, if_neg h]
theorem dNe_bl (a b : Bool) : dNe (.bool a) (.bool b) = .ret (.v (.bool (a != b))) := by cases a <;> cases b <;> rfl
theorem dEq_bl (a b : Bool) : dEq (.bool a) (.bool b) = .ret (.v (.bool (a == b))) := by cases a <;> cases b <;> rfl
/-! ### flags that are all false -/
theorem firstI_none {n : Nat} {c : Nat → Bool} (h : ∀ k, k < n → c k = false) : firstI n c = .none := by
  unfold firstI
  rw [List.find?_eq_none.mpr fun k hk => by rw [h k (List.mem_range.mp hk)]; decide]
/-! ### sorted sets of pairs -/
def prR (p : Int × Int) : List Int := [p.1, p.2]
theorem rowsD_prs (l : List (Int × Int)) : rowsD (l.map movD) = some (l.map prR) := by
  induction l with
  | nil => rfl
  | cons p l ih => rw [List.map_cons, rowsD, ih]; rfl
theorem bSS_prs {l : List (Int × Int)} (hl : l.length < 64) (hb : ∀ p ∈ l, 0 ≤ p.1 ∧ p.1 < 1000 ∧ 0 ≤ p.2 ∧ p.2 < 1000) : ∃ l' : List (Int × Int), bSS [.list (l.map movD)] = .ret (.o (.lst (l'.map movD))) ∧ (∀ p, p ∈ l' ↔ p ∈ l) ∧ l'.Nodup ∧ l'.length ≤ l.length ∧ l'.Pairwise (fun p q => TS.code 1000 (prR p) ≤ TS.code 1000 (prR q)) := by
  have ok : ssOk (l.map prR) = true := by
    unfold ssOk
    rw [Bool.and_eq_true]
    refine ⟨decide_eq_true (by rwa [List.length_map]), ?_⟩
    cases l with
    | nil => rfl
    | cons p l =>
      show (decide (1 ≤ (prR p).length) && ((p :: l).map prR).all (rowOk (prR p).length)) = true
      rw [Bool.and_eq_true]
      refine ⟨rfl, List.all_eq_true.mpr fun r hr => ?_⟩
      obtain ⟨q, hq, rfl⟩ := List.mem_map.mp hr
      have := hb q hq
      show (decide ((2 : Nat) = 2) && (decide (0 ≤ q.1 ∧ q.1 < 1000) && (decide (0 ≤ q.2 ∧ q.2 < 1000) && true))) = true
      rw [decide_eq_true (by omega : 0 ≤ q.1 ∧ q.1 < 1000), decide_eq_true (by omega : 0 ≤ q.2 ∧ q.2 < 1000)]; rfl
  have all : ∀ r ∈ ssR (l.map prR), ∃ p, p ∈ l ∧ r = prR p := fun r hr => by
    obtain ⟨p, hp, e⟩ := List.mem_map.mp (mem_ssR.mp hr)
    exact ⟨p, hp, e.symm⟩
  let f : List Int → Int × Int := fun r => (r.getD 0 0, r.getD 1 0)
  have fr : ∀ p, f (prR p) = p := fun p => rfl
  have inj : ∀ p q, prR p = prR q → p = q := fun p q h => by rw [← fr p, h, fr]
  have back : (((ssR (l.map prR)).map f).map prR) = ssR (l.map prR) := by
    rw [List.map_map]
    exact (List.map_congr_left fun r hr => by obtain ⟨p, _, rfl⟩ := all r hr; rfl).trans (List.map_id _)
  refine ⟨(ssR (l.map prR)).map f, ?_, fun p => ?_, ?_, ?_, ?_⟩
  · show (match rowsD (l.map movD) with | some rows => if ssOk rows = true then T.ret (R.o (.lst ((ssR rows).map rowT))) else .stop | none => .stop) = _
    rw [rowsD_prs]
    simp only [ok, if_true]
    rw [List.map_map]
    refine congrArg (fun z => T.ret (R.o (.lst z))) (List.map_congr_left fun r hr => ?_)
    obtain ⟨p, _, rfl⟩ := all r hr
    rfl
  · constructor
    · intro h
      obtain ⟨r, hr, rfl⟩ := List.mem_map.mp h
      obtain ⟨q, hq, rfl⟩ := all r hr
      exact hq
    · intro h
      exact List.mem_map.mpr ⟨prR p, mem_ssR.mpr (List.mem_map.mpr ⟨p, h, rfl⟩), rfl⟩
  · have nd := nodup_ssR (l.map prR)
    rw [← back] at nd
    exact (List.pairwise_map.mp nd).imp fun h z => h (by rw [z])
  · rw [List.length_map]
    have : ∀ rows : List (List Int), (dedup rows).length ≤ rows.length := fun rows => by
      induction rows with
      | nil => exact Nat.le_refl _
      | cons x r ih =>
        unfold dedup
        split
        · rw [List.length_cons]; omega
        · rw [List.length_cons, List.length_cons]; omega
    have := this (l.map prR)
    unfold ssR
    rw [List.length_mergeSort]
    rwa [List.length_map] at this
  · have pw := sorted_ssR (l.map prR)
    rw [← back] at pw
    exact (List.pairwise_map.mp pw).imp fun h => of_decide_eq_true h
end PL

namespace K31
open PySem PySem.Spec PyProof.Rows L2 DL DL.Sc PL
/-! ### lost positions -/
theorem notIn_of {d e : DL.D} {b : Bool} (h : dIn d e = .ret (.v (.bool b))) : dNotIn d e = .ret (.v (.bool (!b))) := by
  unfold dIn at h; unfold dNotIn
  cases e2 : inD d e with
  | none => rw [e2] at h; cases h
  | some c => rw [e2] at h; cases h; rfl
def lostF (n : Nat) (mem lead : Nat → Bool) : DL.D := firstP [(.str "inner", firstI n fun k => mem k && lead k), (.str "outer", firstI n fun k => !mem k && !lead k)]
theorem lost_is {n : Nat} (hn : n ≤ 1000) {ev : Nat → DL.D} {nx : Nat → List DL.D} {row : DL.D} {M : DL.D → Bool} (h1 : ∀ k, k < n → dIn (ev k) row = .ret (.v (.bool (M (ev k))))) (h2 : ∀ k, k < n → ∀ x ∈ nx k, dIn x row = .ret (.v (.bool (M x)))) (h3 : ∀ k, k < n → (nx k).length ≤ 100000) :
    p_law_lost_faults (.list ((List.range n).map ev)) row (.list ((List.range n).map fun k => .list (nx k))) = .ret (lostF n (fun k => M (ev k)) (fun k => (nx k).any M)) := by
  have rn : rng1 [.int (n : Int)] = .ret (iL (upto n)) := rng1_upN (by omega)
  have hu : (upto n).length ≤ 100000 := by rw [upto_len]; omega
  simp -implicitDefEqProofs only [p_law_lost_faults, PL.bin, PL.un, PL.call, PL.ap0, PL.ap1, PL.ap2, PL.ap3, PL.ap4, PL.ap5, PL.ap6, PL.con, PL.blt, PL.tup, PL.lst, PL.lcP, PL.items, itemsOf, PL.sl, PL.bvP, PL.lvP, PL.kvP, p_vb, asI_i, PL.tgV, PL.tgO, PL.tgC, PL.tgT, PL.andP, PL.orP, PL.notP, PL.iteP, PL.isi, PL.cmp2, PL.appP, PL.thenR, PL.thenB, bind_r, bind_s, wp_ret, bind_ite, kv_of, kb_of, kl_of, kk_of, kf_v, kf_l, kk_val, e_chk, each_nil, each_cons, forN_nil, forN_cons, forB_nil, forB_cons, List.append_nil, List.nil_append, List.cons_append, List.length_cons, List.length_nil, Bool.false_eq_true, if_true, if_false, Bool.not_true, Bool.not_false, Nat.zero_add, Nat.le_refl, Nat.zero_le, isi_none, isi_bool, isi_int, isi_str, isi_list, isi_tuple, isi_dict, dIs, dIsNot, isn_none, isn_int, isn_bool, isn_str, isn_tup, isn_lst, isn_dict, decide_eq_true_eq, Bool.not_eq_true, Nat.reduceLeDiff, Nat.reduceAdd, Nat.reduceSub, reduceIte, ite_self, bLen_list, List.length_map, List.length_range, rn, hu]
  rw [each_ups n fun k => .bool ((nx k).any M)]
  rotate_left
  · intro k hk
    have := each_dat (φ := id) (t := fun one_5 => (dIn one_5 row).bind KB.of) (e := fun one_5 => T.ret one_5) (nx k) M id (fun x hx => by simp only [id, h2 k hk x hx]; rfl) fun _ _ _ => rfl
    rw [List.map_id] at this
    simp -implicitDefEqProofs only [PL.bin, PL.un, PL.call, PL.ap0, PL.ap1, PL.ap2, PL.ap3, PL.ap4, PL.ap5, PL.ap6, PL.con, PL.blt, PL.tup, PL.lst, PL.lcP, PL.items, itemsOf, PL.sl, PL.bvP, PL.lvP, PL.kvP, p_vb, asI_i, PL.tgV, PL.tgO, PL.tgC, PL.tgT, PL.andP, PL.orP, PL.notP, PL.iteP, PL.isi, PL.cmp2, PL.appP, PL.thenR, PL.thenB, bind_r, bind_s, wp_ret, bind_ite, kv_of, kb_of, kl_of, kk_of, kf_v, kf_l, kk_val, e_chk, each_nil, each_cons, forN_nil, forN_cons, forB_nil, forB_cons, List.append_nil, List.nil_append, List.cons_append, List.length_cons, List.length_nil, Bool.false_eq_true, if_true, if_false, Bool.not_true, Bool.not_false, Nat.zero_add, Nat.le_refl, Nat.zero_le, isi_none, isi_bool, isi_int, isi_str, isi_list, isi_tuple, isi_dict, dIs, dIsNot, isn_none, isn_int, isn_bool, isn_str, isn_tup, isn_lst, isn_dict, decide_eq_true_eq, Bool.not_eq_true, Nat.reduceLeDiff, Nat.reduceAdd, Nat.reduceSub, reduceIte, ite_self, dIx_rng hk, this, h3 k hk, bLen_list, dGt_int, List.map_id]
    refine congrArg T.ret (congrArg PyData.bool ?_)
    have e := pos_any (nx k) M (id : DL.D → DL.D)
    rw [List.map_id] at e; exact e
  simp -implicitDefEqProofs only [PL.bin, PL.un, PL.call, PL.ap0, PL.ap1, PL.ap2, PL.ap3, PL.ap4, PL.ap5, PL.ap6, PL.con, PL.blt, PL.tup, PL.lst, PL.lcP, PL.items, itemsOf, PL.sl, PL.bvP, PL.lvP, PL.kvP, p_vb, asI_i, PL.tgV, PL.tgO, PL.tgC, PL.tgT, PL.andP, PL.orP, PL.notP, PL.iteP, PL.isi, PL.cmp2, PL.appP, PL.thenR, PL.thenB, bind_r, bind_s, wp_ret, bind_ite, kv_of, kb_of, kl_of, kk_of, kf_v, kf_l, kk_val, e_chk, each_nil, each_cons, forN_nil, forN_cons, forB_nil, forB_cons, List.append_nil, List.nil_append, List.cons_append, List.length_cons, List.length_nil, Bool.false_eq_true, if_true, if_false, Bool.not_true, Bool.not_false, Nat.zero_add, Nat.le_refl, Nat.zero_le, isi_none, isi_bool, isi_int, isi_str, isi_list, isi_tuple, isi_dict, dIs, dIsNot, isn_none, isn_int, isn_bool, isn_str, isn_tup, isn_lst, isn_dict, decide_eq_true_eq, Bool.not_eq_true, Nat.reduceLeDiff, Nat.reduceAdd, Nat.reduceSub, reduceIte, ite_self]
  rw [each_up n (fun k => M (ev k) && (nx k).any M) fun (k : Nat) => .int (k : Int)]
  rotate_left
  · intro k hk
    cases e : M (ev k) <;> simp -implicitDefEqProofs only [PL.bin, PL.un, PL.call, PL.ap0, PL.ap1, PL.ap2, PL.ap3, PL.ap4, PL.ap5, PL.ap6, PL.con, PL.blt, PL.tup, PL.lst, PL.lcP, PL.items, itemsOf, PL.sl, PL.bvP, PL.lvP, PL.kvP, p_vb, asI_i, PL.tgV, PL.tgO, PL.tgC, PL.tgT, PL.andP, PL.orP, PL.notP, PL.iteP, PL.isi, PL.cmp2, PL.appP, PL.thenR, PL.thenB, bind_r, bind_s, wp_ret, bind_ite, kv_of, kb_of, kl_of, kk_of, kf_v, kf_l, kk_val, e_chk, each_nil, each_cons, forN_nil, forN_cons, forB_nil, forB_cons, List.append_nil, List.nil_append, List.cons_append, List.length_cons, List.length_nil, Bool.false_eq_true, if_true, if_false, Bool.not_true, Bool.not_false, Nat.zero_add, Nat.le_refl, Nat.zero_le, isi_none, isi_bool, isi_int, isi_str, isi_list, isi_tuple, isi_dict, dIs, dIsNot, isn_none, isn_int, isn_bool, isn_str, isn_tup, isn_lst, isn_dict, decide_eq_true_eq, Bool.not_eq_true, Nat.reduceLeDiff, Nat.reduceAdd, Nat.reduceSub, reduceIte, ite_self, dIx_rng hk, h1 k hk, e, p_vb, Bool.true_and, Bool.false_and]
  · intro k _ _; rfl
  simp -implicitDefEqProofs only [PL.bin, PL.un, PL.call, PL.ap0, PL.ap1, PL.ap2, PL.ap3, PL.ap4, PL.ap5, PL.ap6, PL.con, PL.blt, PL.tup, PL.lst, PL.lcP, PL.items, itemsOf, PL.sl, PL.bvP, PL.lvP, PL.kvP, p_vb, asI_i, PL.tgV, PL.tgO, PL.tgC, PL.tgT, PL.andP, PL.orP, PL.notP, PL.iteP, PL.isi, PL.cmp2, PL.appP, PL.thenR, PL.thenB, bind_r, bind_s, wp_ret, bind_ite, kv_of, kb_of, kl_of, kk_of, kf_v, kf_l, kk_val, e_chk, each_nil, each_cons, forN_nil, forN_cons, forB_nil, forB_cons, List.append_nil, List.nil_append, List.cons_append, List.length_cons, List.length_nil, Bool.false_eq_true, if_true, if_false, Bool.not_true, Bool.not_false, Nat.zero_add, Nat.le_refl, Nat.zero_le, isi_none, isi_bool, isi_int, isi_str, isi_list, isi_tuple, isi_dict, dIs, dIsNot, isn_none, isn_int, isn_bool, isn_str, isn_tup, isn_lst, isn_dict, decide_eq_true_eq, Bool.not_eq_true, Nat.reduceLeDiff, Nat.reduceAdd, Nat.reduceSub, reduceIte, ite_self]
  rw [each_up n (fun k => !M (ev k) && !(nx k).any M) fun (k : Nat) => .int (k : Int)]
  rotate_left
  · intro k hk
    cases e : M (ev k) <;> simp -implicitDefEqProofs only [PL.bin, PL.un, PL.call, PL.ap0, PL.ap1, PL.ap2, PL.ap3, PL.ap4, PL.ap5, PL.ap6, PL.con, PL.blt, PL.tup, PL.lst, PL.lcP, PL.items, itemsOf, PL.sl, PL.bvP, PL.lvP, PL.kvP, p_vb, asI_i, PL.tgV, PL.tgO, PL.tgC, PL.tgT, PL.andP, PL.orP, PL.notP, PL.iteP, PL.isi, PL.cmp2, PL.appP, PL.thenR, PL.thenB, bind_r, bind_s, wp_ret, bind_ite, kv_of, kb_of, kl_of, kk_of, kf_v, kf_l, kk_val, e_chk, each_nil, each_cons, forN_nil, forN_cons, forB_nil, forB_cons, List.append_nil, List.nil_append, List.cons_append, List.length_cons, List.length_nil, Bool.false_eq_true, if_true, if_false, Bool.not_true, Bool.not_false, Nat.zero_add, Nat.le_refl, Nat.zero_le, isi_none, isi_bool, isi_int, isi_str, isi_list, isi_tuple, isi_dict, dIs, dIsNot, isn_none, isn_int, isn_bool, isn_str, isn_tup, isn_lst, isn_dict, decide_eq_true_eq, Bool.not_eq_true, Nat.reduceLeDiff, Nat.reduceAdd, Nat.reduceSub, reduceIte, ite_self, dIx_rng hk, notIn_of (h1 k hk), e, p_vb, Bool.true_and, Bool.false_and]
  · intro k _ _; rfl
  have li : ∀ c : Nat → Bool, p_law_least (.list (((List.range n).filter c).map fun (k : Nat) => .int (k : Int))) = .ret (firstI n c) := fun c => by
    have := least_is (((List.range n).filter c).map fun (k : Nat) => (k : Int))
    rw [List.map_map, least_up] at this; exact this
  simp -implicitDefEqProofs only [PL.bin, PL.un, PL.call, PL.ap0, PL.ap1, PL.ap2, PL.ap3, PL.ap4, PL.ap5, PL.ap6, PL.con, PL.blt, PL.tup, PL.lst, PL.lcP, PL.items, itemsOf, PL.sl, PL.bvP, PL.lvP, PL.kvP, p_vb, asI_i, PL.tgV, PL.tgO, PL.tgC, PL.tgT, PL.andP, PL.orP, PL.notP, PL.iteP, PL.isi, PL.cmp2, PL.appP, PL.thenR, PL.thenB, bind_r, bind_s, wp_ret, bind_ite, kv_of, kb_of, kl_of, kk_of, kf_v, kf_l, kk_val, e_chk, each_nil, each_cons, forN_nil, forN_cons, forB_nil, forB_cons, List.append_nil, List.nil_append, List.cons_append, List.length_cons, List.length_nil, Bool.false_eq_true, if_true, if_false, Bool.not_true, Bool.not_false, Nat.zero_add, Nat.le_refl, Nat.zero_le, isi_none, isi_bool, isi_int, isi_str, isi_list, isi_tuple, isi_dict, dIs, dIsNot, isn_none, isn_int, isn_bool, isn_str, isn_tup, isn_lst, isn_dict, decide_eq_true_eq, Bool.not_eq_true, Nat.reduceLeDiff, Nat.reduceAdd, Nat.reduceSub, reduceIte, ite_self, li]
  exact law_first_is [(.str "inner", _), (.str "outer", _)]

theorem are_pairs_is {v : DL.D} {a b : Int} (ha : 0 ≤ a ∧ a ≤ 99) (hb : 0 ≤ b ∧ b ≤ 99) (hv : lenOk v = true) (hc : ∀ xs, v = .tuple xs → ∀ x ∈ xs, lenOk x = true) : p_are_pairs v (.int a) (.int b) = .ret (pairsS v a b) := by
  cases v with
  | tuple xs =>
    have hl := lenOk_inv hv xs rfl
    have hc := hc xs rfl
    simp -implicitDefEqProofs only [p_are_pairs, PL.bin, PL.un, PL.call, PL.ap0, PL.ap1, PL.ap2, PL.ap3, PL.ap4, PL.ap5, PL.ap6, PL.con, PL.blt, PL.tup, PL.lst, PL.lcP, PL.items, itemsOf, PL.sl, PL.bvP, PL.lvP, PL.kvP, p_vb, asI_i, PL.tgV, PL.tgO, PL.tgC, PL.tgT, PL.andP, PL.orP, PL.notP, PL.iteP, PL.isi, PL.cmp2, PL.appP, PL.thenR, PL.thenB, bind_r, bind_s, wp_ret, bind_ite, kv_of, kb_of, kl_of, kk_of, kf_v, kf_l, kk_val, e_chk, each_nil, each_cons, forN_nil, forN_cons, forB_nil, forB_cons, List.append_nil, List.nil_append, List.cons_append, List.length_cons, List.length_nil, Bool.false_eq_true, if_true, if_false, Bool.not_true, Bool.not_false, Nat.zero_add, Nat.le_refl, Nat.zero_le, isi_none, isi_bool, isi_int, isi_str, isi_list, isi_tuple, isi_dict, dIs, dIsNot, isn_none, isn_int, isn_bool, isn_str, isn_tup, isn_lst, isn_dict, decide_eq_true_eq, Bool.not_eq_true, Nat.reduceLeDiff, Nat.reduceAdd, Nat.reduceSub, reduceIte, ite_self, bMax2, hl]
    rw [each_rows (t := fun x => h_row x (.int 2) (.int 0) (.int (if b > a then b else a))) xs (fun x => rowI x 2 0 (if b > a then b else a)) fun x hx => by simp only [h_row, hc x hx, if_true]]
    simp -implicitDefEqProofs only [PL.bin, PL.un, PL.call, PL.ap0, PL.ap1, PL.ap2, PL.ap3, PL.ap4, PL.ap5, PL.ap6, PL.con, PL.blt, PL.tup, PL.lst, PL.lcP, PL.items, itemsOf, PL.sl, PL.bvP, PL.lvP, PL.kvP, p_vb, asI_i, PL.tgV, PL.tgO, PL.tgC, PL.tgT, PL.andP, PL.orP, PL.notP, PL.iteP, PL.isi, PL.cmp2, PL.appP, PL.thenR, PL.thenB, bind_r, bind_s, wp_ret, bind_ite, kv_of, kb_of, kl_of, kk_of, kf_v, kf_l, kk_val, e_chk, each_nil, each_cons, forN_nil, forN_cons, forB_nil, forB_cons, List.append_nil, List.nil_append, List.cons_append, List.length_cons, List.length_nil, Bool.false_eq_true, if_true, if_false, Bool.not_true, Bool.not_false, Nat.zero_add, Nat.le_refl, Nat.zero_le, isi_none, isi_bool, isi_int, isi_str, isi_list, isi_tuple, isi_dict, dIs, dIsNot, isn_none, isn_int, isn_bool, isn_str, isn_tup, isn_lst, isn_dict, decide_eq_true_eq, Bool.not_eq_true, Nat.reduceLeDiff, Nat.reduceAdd, Nat.reduceSub, reduceIte, ite_self, bAll_is]
    rw [rowI_pairs]
    unfold pairsS
    cases e : movOf xs with
    | none => simp -implicitDefEqProofs only [PL.bin, PL.un, PL.call, PL.ap0, PL.ap1, PL.ap2, PL.ap3, PL.ap4, PL.ap5, PL.ap6, PL.con, PL.blt, PL.tup, PL.lst, PL.lcP, PL.items, itemsOf, PL.sl, PL.bvP, PL.lvP, PL.kvP, p_vb, asI_i, PL.tgV, PL.tgO, PL.tgC, PL.tgT, PL.andP, PL.orP, PL.notP, PL.iteP, PL.isi, PL.cmp2, PL.appP, PL.thenR, PL.thenB, bind_r, bind_s, wp_ret, bind_ite, kv_of, kb_of, kl_of, kk_of, kf_v, kf_l, kk_val, e_chk, each_nil, each_cons, forN_nil, forN_cons, forB_nil, forB_cons, List.append_nil, List.nil_append, List.cons_append, List.length_cons, List.length_nil, Bool.false_eq_true, if_true, if_false, Bool.not_true, Bool.not_false, Nat.zero_add, Nat.le_refl, Nat.zero_le, isi_none, isi_bool, isi_int, isi_str, isi_list, isi_tuple, isi_dict, dIs, dIsNot, isn_none, isn_int, isn_bool, isn_str, isn_tup, isn_lst, isn_dict, decide_eq_true_eq, Bool.not_eq_true, Nat.reduceLeDiff, Nat.reduceAdd, Nat.reduceSub, reduceIte, ite_self, e]
    | some l =>
      have ex := movOf_eq e
      subst ex
      have ll : l.length ≤ 100000 := by rwa [List.length_map] at hl
      simp only [e]
      by_cases h : (l.all fun p => decide (0 ≤ p.1 ∧ p.1 ≤ (if b > a then b else a) ∧ 0 ≤ p.2 ∧ p.2 ≤ (if b > a then b else a))) = true
      · simp -implicitDefEqProofs only [PL.bin, PL.un, PL.call, PL.ap0, PL.ap1, PL.ap2, PL.ap3, PL.ap4, PL.ap5, PL.ap6, PL.con, PL.blt, PL.tup, PL.lst, PL.lcP, PL.items, itemsOf, PL.sl, PL.bvP, PL.lvP, PL.kvP, p_vb, asI_i, PL.tgV, PL.tgO, PL.tgC, PL.tgT, PL.andP, PL.orP, PL.notP, PL.iteP, PL.isi, PL.cmp2, PL.appP, PL.thenR, PL.thenB, bind_r, bind_s, wp_ret, bind_ite, kv_of, kb_of, kl_of, kk_of, kf_v, kf_l, kk_val, e_chk, each_nil, each_cons, forN_nil, forN_cons, forB_nil, forB_cons, List.append_nil, List.nil_append, List.cons_append, List.length_cons, List.length_nil, Bool.false_eq_true, if_true, if_false, Bool.not_true, Bool.not_false, Nat.zero_add, Nat.le_refl, Nat.zero_le, isi_none, isi_bool, isi_int, isi_str, isi_list, isi_tuple, isi_dict, dIs, dIsNot, isn_none, isn_int, isn_bool, isn_str, isn_tup, isn_lst, isn_dict, decide_eq_true_eq, Bool.not_eq_true, Nat.reduceLeDiff, Nat.reduceAdd, Nat.reduceSub, reduceIte, ite_self, h, rises_pairs ll, List.length_map, ll]
        rw [each_dats l fun p => .bool (decide (p.1 < a) && decide (p.2 < b))]
        · simp -implicitDefEqProofs only [PL.bin, PL.un, PL.call, PL.ap0, PL.ap1, PL.ap2, PL.ap3, PL.ap4, PL.ap5, PL.ap6, PL.con, PL.blt, PL.tup, PL.lst, PL.lcP, PL.items, itemsOf, PL.sl, PL.bvP, PL.lvP, PL.kvP, p_vb, asI_i, PL.tgV, PL.tgO, PL.tgC, PL.tgT, PL.andP, PL.orP, PL.notP, PL.iteP, PL.isi, PL.cmp2, PL.appP, PL.thenR, PL.thenB, bind_r, bind_s, wp_ret, bind_ite, kv_of, kb_of, kl_of, kk_of, kf_v, kf_l, kk_val, e_chk, each_nil, each_cons, forN_nil, forN_cons, forB_nil, forB_cons, List.append_nil, List.nil_append, List.cons_append, List.length_cons, List.length_nil, Bool.false_eq_true, if_true, if_false, Bool.not_true, Bool.not_false, Nat.zero_add, Nat.le_refl, Nat.zero_le, isi_none, isi_bool, isi_int, isi_str, isi_list, isi_tuple, isi_dict, dIs, dIsNot, isn_none, isn_int, isn_bool, isn_str, isn_tup, isn_lst, isn_dict, decide_eq_true_eq, Bool.not_eq_true, Nat.reduceLeDiff, Nat.reduceAdd, Nat.reduceSub, reduceIte, ite_self, bAll_is]
          have e3 : (l.all fun p => decide (0 ≤ p.1 ∧ p.1 < a ∧ 0 ≤ p.2 ∧ p.2 < b)) = l.all fun p => decide (p.1 < a) && decide (p.2 < b) := by
            rw [Bool.eq_iff_iff, List.all_eq_true, List.all_eq_true]
            refine ⟨fun q p hp => ?_, fun q p hp => ?_⟩
            · have := of_decide_eq_true (q p hp)
              rw [decide_eq_true this.2.1, decide_eq_true this.2.2.2]; rfl
            · have r := of_decide_eq_true (List.all_eq_true.mp h p hp)
              have q := q p hp
              rw [Bool.and_eq_true] at q
              exact decide_eq_true ⟨r.1, of_decide_eq_true q.1, r.2.2.1, of_decide_eq_true q.2⟩
          rw [e3]
          cases upP l <;> cases (l.all fun p => decide (p.1 < a) && decide (p.2 < b)) <;> rfl
        · intro p _
          cases q : decide (p.1 < a) <;> simp -implicitDefEqProofs only [PL.bin, PL.un, PL.call, PL.ap0, PL.ap1, PL.ap2, PL.ap3, PL.ap4, PL.ap5, PL.ap6, PL.con, PL.blt, PL.tup, PL.lst, PL.lcP, PL.items, itemsOf, PL.sl, PL.bvP, PL.lvP, PL.kvP, p_vb, asI_i, PL.tgV, PL.tgO, PL.tgC, PL.tgT, PL.andP, PL.orP, PL.notP, PL.iteP, PL.isi, PL.cmp2, PL.appP, PL.thenR, PL.thenB, bind_r, bind_s, wp_ret, bind_ite, kv_of, kb_of, kl_of, kk_of, kf_v, kf_l, kk_val, e_chk, each_nil, each_cons, forN_nil, forN_cons, forB_nil, forB_cons, List.append_nil, List.nil_append, List.cons_append, List.length_cons, List.length_nil, Bool.false_eq_true, if_true, if_false, Bool.not_true, Bool.not_false, Nat.zero_add, Nat.le_refl, Nat.zero_le, isi_none, isi_bool, isi_int, isi_str, isi_list, isi_tuple, isi_dict, dIs, dIsNot, isn_none, isn_int, isn_bool, isn_str, isn_tup, isn_lst, isn_dict, decide_eq_true_eq, Bool.not_eq_true, Nat.reduceLeDiff, Nat.reduceAdd, Nat.reduceSub, reduceIte, ite_self, m0, m1, dLt_int, q, Bool.true_and, Bool.false_and]
      · rw [Bool.not_eq_true] at h
        have : (l.all fun p => decide (0 ≤ p.1 ∧ p.1 < a ∧ 0 ≤ p.2 ∧ p.2 < b)) = false := by
          rw [List.all_eq_false] at h ⊢
          obtain ⟨p, hp, q⟩ := h
          refine ⟨p, hp, fun z => q (decide_eq_true ?_)⟩
          have := of_decide_eq_true z
          split <;> omega
        simp -implicitDefEqProofs only [PL.bin, PL.un, PL.call, PL.ap0, PL.ap1, PL.ap2, PL.ap3, PL.ap4, PL.ap5, PL.ap6, PL.con, PL.blt, PL.tup, PL.lst, PL.lcP, PL.items, itemsOf, PL.sl, PL.bvP, PL.lvP, PL.kvP, p_vb, asI_i, PL.tgV, PL.tgO, PL.tgC, PL.tgT, PL.andP, PL.orP, PL.notP, PL.iteP, PL.isi, PL.cmp2, PL.appP, PL.thenR, PL.thenB, bind_r, bind_s, wp_ret, bind_ite, kv_of, kb_of, kl_of, kk_of, kf_v, kf_l, kk_val, e_chk, each_nil, each_cons, forN_nil, forN_cons, forB_nil, forB_cons, List.append_nil, List.nil_append, List.cons_append, List.length_cons, List.length_nil, Bool.false_eq_true, if_true, if_false, Bool.not_true, Bool.not_false, Nat.zero_add, Nat.le_refl, Nat.zero_le, isi_none, isi_bool, isi_int, isi_str, isi_list, isi_tuple, isi_dict, dIs, dIsNot, isn_none, isn_int, isn_bool, isn_str, isn_tup, isn_lst, isn_dict, decide_eq_true_eq, Bool.not_eq_true, Nat.reduceLeDiff, Nat.reduceAdd, Nat.reduceSub, reduceIte, ite_self, h, this, Bool.false_and]
  | _ => simp -implicitDefEqProofs only [p_are_pairs, PL.bin, PL.un, PL.call, PL.ap0, PL.ap1, PL.ap2, PL.ap3, PL.ap4, PL.ap5, PL.ap6, PL.con, PL.blt, PL.tup, PL.lst, PL.lcP, PL.items, itemsOf, PL.sl, PL.bvP, PL.lvP, PL.kvP, p_vb, asI_i, PL.tgV, PL.tgO, PL.tgC, PL.tgT, PL.andP, PL.orP, PL.notP, PL.iteP, PL.isi, PL.cmp2, PL.appP, PL.thenR, PL.thenB, bind_r, bind_s, wp_ret, bind_ite, kv_of, kb_of, kl_of, kk_of, kf_v, kf_l, kk_val, e_chk, each_nil, each_cons, forN_nil, forN_cons, forB_nil, forB_cons, List.append_nil, List.nil_append, List.cons_append, List.length_cons, List.length_nil, Bool.false_eq_true, if_true, if_false, Bool.not_true, Bool.not_false, Nat.zero_add, Nat.le_refl, Nat.zero_le, isi_none, isi_bool, isi_int, isi_str, isi_list, isi_tuple, isi_dict, dIs, dIsNot, isn_none, isn_int, isn_bool, isn_str, isn_tup, isn_lst, isn_dict, decide_eq_true_eq, Bool.not_eq_true, Nat.reduceLeDiff, Nat.reduceAdd, Nat.reduceSub, reduceIte, ite_self, bMax2]; rfl
theorem pair_rows_is {v : DL.D} {a b : Int} (ha : 0 ≤ a ∧ a ≤ 99) (hb : 0 ≤ b ∧ b ≤ 99) (hv : lenOk v = true) (hc : ∀ xs, v = .tuple xs → ∀ x ∈ xs, lenOk x = true) : p_law_pair_rows v (.int a) (.int b) = .ret (pairsS v a b) := by
  cases v with
  | tuple xs =>
    have hl := lenOk_inv hv xs rfl
    have hc := hc xs rfl
    simp -implicitDefEqProofs only [p_law_pair_rows, PL.bin, PL.un, PL.call, PL.ap0, PL.ap1, PL.ap2, PL.ap3, PL.ap4, PL.ap5, PL.ap6, PL.con, PL.blt, PL.tup, PL.lst, PL.lcP, PL.items, itemsOf, PL.sl, PL.bvP, PL.lvP, PL.kvP, p_vb, asI_i, PL.tgV, PL.tgO, PL.tgC, PL.tgT, PL.andP, PL.orP, PL.notP, PL.iteP, PL.isi, PL.cmp2, PL.appP, PL.thenR, PL.thenB, bind_r, bind_s, wp_ret, bind_ite, kv_of, kb_of, kl_of, kk_of, kf_v, kf_l, kk_val, e_chk, each_nil, each_cons, forN_nil, forN_cons, forB_nil, forB_cons, List.append_nil, List.nil_append, List.cons_append, List.length_cons, List.length_nil, Bool.false_eq_true, if_true, if_false, Bool.not_true, Bool.not_false, Nat.zero_add, Nat.le_refl, Nat.zero_le, isi_none, isi_bool, isi_int, isi_str, isi_list, isi_tuple, isi_dict, dIs, dIsNot, isn_none, isn_int, isn_bool, isn_str, isn_tup, isn_lst, isn_dict, decide_eq_true_eq, Bool.not_eq_true, Nat.reduceLeDiff, Nat.reduceAdd, Nat.reduceSub, reduceIte, ite_self, hl]
    rw [each_filt xs (fun x => !rowI x 2 0 99) fun x hx => by simp only [h_lrow, hc x hx, if_true, bind_r]]
    simp -implicitDefEqProofs only [PL.bin, PL.un, PL.call, PL.ap0, PL.ap1, PL.ap2, PL.ap3, PL.ap4, PL.ap5, PL.ap6, PL.con, PL.blt, PL.tup, PL.lst, PL.lcP, PL.items, itemsOf, PL.sl, PL.bvP, PL.lvP, PL.kvP, p_vb, asI_i, PL.tgV, PL.tgO, PL.tgC, PL.tgT, PL.andP, PL.orP, PL.notP, PL.iteP, PL.isi, PL.cmp2, PL.appP, PL.thenR, PL.thenB, bind_r, bind_s, wp_ret, bind_ite, kv_of, kb_of, kl_of, kk_of, kf_v, kf_l, kk_val, e_chk, each_nil, each_cons, forN_nil, forN_cons, forB_nil, forB_cons, List.append_nil, List.nil_append, List.cons_append, List.length_cons, List.length_nil, Bool.false_eq_true, if_true, if_false, Bool.not_true, Bool.not_false, Nat.zero_add, Nat.le_refl, Nat.zero_le, isi_none, isi_bool, isi_int, isi_str, isi_list, isi_tuple, isi_dict, dIs, dIsNot, isn_none, isn_int, isn_bool, isn_str, isn_tup, isn_lst, isn_dict, decide_eq_true_eq, Bool.not_eq_true, Nat.reduceLeDiff, Nat.reduceAdd, Nat.reduceSub, reduceIte, ite_self, bLen_list, dGt_int, none_len, any_not, rowI_pairs]
    unfold pairsS
    cases e : movOf xs with
    | none => simp -implicitDefEqProofs only [PL.bin, PL.un, PL.call, PL.ap0, PL.ap1, PL.ap2, PL.ap3, PL.ap4, PL.ap5, PL.ap6, PL.con, PL.blt, PL.tup, PL.lst, PL.lcP, PL.items, itemsOf, PL.sl, PL.bvP, PL.lvP, PL.kvP, p_vb, asI_i, PL.tgV, PL.tgO, PL.tgC, PL.tgT, PL.andP, PL.orP, PL.notP, PL.iteP, PL.isi, PL.cmp2, PL.appP, PL.thenR, PL.thenB, bind_r, bind_s, wp_ret, bind_ite, kv_of, kb_of, kl_of, kk_of, kf_v, kf_l, kk_val, e_chk, each_nil, each_cons, forN_nil, forN_cons, forB_nil, forB_cons, List.append_nil, List.nil_append, List.cons_append, List.length_cons, List.length_nil, Bool.false_eq_true, if_true, if_false, Bool.not_true, Bool.not_false, Nat.zero_add, Nat.le_refl, Nat.zero_le, isi_none, isi_bool, isi_int, isi_str, isi_list, isi_tuple, isi_dict, dIs, dIsNot, isn_none, isn_int, isn_bool, isn_str, isn_tup, isn_lst, isn_dict, decide_eq_true_eq, Bool.not_eq_true, Nat.reduceLeDiff, Nat.reduceAdd, Nat.reduceSub, reduceIte, ite_self, e]
    | some l =>
      have ex := movOf_eq e
      subst ex
      have ll : l.length ≤ 100000 := by rwa [List.length_map] at hl
      simp only [e]
      by_cases h : (l.all fun p => decide (0 ≤ p.1 ∧ p.1 ≤ 99 ∧ 0 ≤ p.2 ∧ p.2 ≤ 99)) = true
      · simp -implicitDefEqProofs only [PL.bin, PL.un, PL.call, PL.ap0, PL.ap1, PL.ap2, PL.ap3, PL.ap4, PL.ap5, PL.ap6, PL.con, PL.blt, PL.tup, PL.lst, PL.lcP, PL.items, itemsOf, PL.sl, PL.bvP, PL.lvP, PL.kvP, p_vb, asI_i, PL.tgV, PL.tgO, PL.tgC, PL.tgT, PL.andP, PL.orP, PL.notP, PL.iteP, PL.isi, PL.cmp2, PL.appP, PL.thenR, PL.thenB, bind_r, bind_s, wp_ret, bind_ite, kv_of, kb_of, kl_of, kk_of, kf_v, kf_l, kk_val, e_chk, each_nil, each_cons, forN_nil, forN_cons, forB_nil, forB_cons, List.append_nil, List.nil_append, List.cons_append, List.length_cons, List.length_nil, Bool.false_eq_true, if_true, if_false, Bool.not_true, Bool.not_false, Nat.zero_add, Nat.le_refl, Nat.zero_le, isi_none, isi_bool, isi_int, isi_str, isi_list, isi_tuple, isi_dict, dIs, dIsNot, isn_none, isn_int, isn_bool, isn_str, isn_tup, isn_lst, isn_dict, decide_eq_true_eq, Bool.not_eq_true, Nat.reduceLeDiff, Nat.reduceAdd, Nat.reduceSub, reduceIte, ite_self, h, is_up_pairs ll, List.length_map, ll]
        rw [each_dat l (fun p => decide (a ≤ p.1) || decide (b ≤ p.2)) movD]
        · simp -implicitDefEqProofs only [PL.bin, PL.un, PL.call, PL.ap0, PL.ap1, PL.ap2, PL.ap3, PL.ap4, PL.ap5, PL.ap6, PL.con, PL.blt, PL.tup, PL.lst, PL.lcP, PL.items, itemsOf, PL.sl, PL.bvP, PL.lvP, PL.kvP, p_vb, asI_i, PL.tgV, PL.tgO, PL.tgC, PL.tgT, PL.andP, PL.orP, PL.notP, PL.iteP, PL.isi, PL.cmp2, PL.appP, PL.thenR, PL.thenB, bind_r, bind_s, wp_ret, bind_ite, kv_of, kb_of, kl_of, kk_of, kf_v, kf_l, kk_val, e_chk, each_nil, each_cons, forN_nil, forN_cons, forB_nil, forB_cons, List.append_nil, List.nil_append, List.cons_append, List.length_cons, List.length_nil, Bool.false_eq_true, if_true, if_false, Bool.not_true, Bool.not_false, Nat.zero_add, Nat.le_refl, Nat.zero_le, isi_none, isi_bool, isi_int, isi_str, isi_list, isi_tuple, isi_dict, dIs, dIsNot, isn_none, isn_int, isn_bool, isn_str, isn_tup, isn_lst, isn_dict, decide_eq_true_eq, Bool.not_eq_true, Nat.reduceLeDiff, Nat.reduceAdd, Nat.reduceSub, reduceIte, ite_self, bLen_list, dEq_int, List.length_map, zero_len]
          have e3 : (l.all fun p => decide (0 ≤ p.1 ∧ p.1 < a ∧ 0 ≤ p.2 ∧ p.2 < b)) = l.all fun p => !(decide (a ≤ p.1) || decide (b ≤ p.2)) := by
            rw [Bool.eq_iff_iff, List.all_eq_true, List.all_eq_true]
            refine ⟨fun q p hp => ?_, fun q p hp => ?_⟩
            · have := of_decide_eq_true (q p hp)
              rw [decide_eq_false (by omega : ¬ a ≤ p.1), decide_eq_false (by omega : ¬ b ≤ p.2)]; rfl
            · have r := of_decide_eq_true (List.all_eq_true.mp h p hp)
              have q := q p hp
              rw [Bool.not_eq_true', Bool.or_eq_false_iff] at q
              have q1 := of_decide_eq_false q.1
              have q2 := of_decide_eq_false q.2
              exact decide_eq_true (by omega)
          rw [e3]
          cases upP l <;> cases (l.all fun p => !(decide (a ≤ p.1) || decide (b ≤ p.2))) <;> rfl
        · intro p _
          cases q : decide (a ≤ p.1) <;> simp -implicitDefEqProofs only [PL.bin, PL.un, PL.call, PL.ap0, PL.ap1, PL.ap2, PL.ap3, PL.ap4, PL.ap5, PL.ap6, PL.con, PL.blt, PL.tup, PL.lst, PL.lcP, PL.items, itemsOf, PL.sl, PL.bvP, PL.lvP, PL.kvP, p_vb, asI_i, PL.tgV, PL.tgO, PL.tgC, PL.tgT, PL.andP, PL.orP, PL.notP, PL.iteP, PL.isi, PL.cmp2, PL.appP, PL.thenR, PL.thenB, bind_r, bind_s, wp_ret, bind_ite, kv_of, kb_of, kl_of, kk_of, kf_v, kf_l, kk_val, e_chk, each_nil, each_cons, forN_nil, forN_cons, forB_nil, forB_cons, List.append_nil, List.nil_append, List.cons_append, List.length_cons, List.length_nil, Bool.false_eq_true, if_true, if_false, Bool.not_true, Bool.not_false, Nat.zero_add, Nat.le_refl, Nat.zero_le, isi_none, isi_bool, isi_int, isi_str, isi_list, isi_tuple, isi_dict, dIs, dIsNot, isn_none, isn_int, isn_bool, isn_str, isn_tup, isn_lst, isn_dict, decide_eq_true_eq, Bool.not_eq_true, Nat.reduceLeDiff, Nat.reduceAdd, Nat.reduceSub, reduceIte, ite_self, m0, m1, dGe_int, q, Bool.true_or, Bool.false_or]
        · intro p _ _; rfl
      · rw [Bool.not_eq_true] at h
        have : (l.all fun p => decide (0 ≤ p.1 ∧ p.1 < a ∧ 0 ≤ p.2 ∧ p.2 < b)) = false := by
          rw [List.all_eq_false] at h ⊢
          obtain ⟨p, hp, q⟩ := h
          refine ⟨p, hp, fun z => q (decide_eq_true ?_)⟩
          have := of_decide_eq_true z
          omega
        simp -implicitDefEqProofs only [PL.bin, PL.un, PL.call, PL.ap0, PL.ap1, PL.ap2, PL.ap3, PL.ap4, PL.ap5, PL.ap6, PL.con, PL.blt, PL.tup, PL.lst, PL.lcP, PL.items, itemsOf, PL.sl, PL.bvP, PL.lvP, PL.kvP, p_vb, asI_i, PL.tgV, PL.tgO, PL.tgC, PL.tgT, PL.andP, PL.orP, PL.notP, PL.iteP, PL.isi, PL.cmp2, PL.appP, PL.thenR, PL.thenB, bind_r, bind_s, wp_ret, bind_ite, kv_of, kb_of, kl_of, kk_of, kf_v, kf_l, kk_val, e_chk, each_nil, each_cons, forN_nil, forN_cons, forB_nil, forB_cons, List.append_nil, List.nil_append, List.cons_append, List.length_cons, List.length_nil, Bool.false_eq_true, if_true, if_false, Bool.not_true, Bool.not_false, Nat.zero_add, Nat.le_refl, Nat.zero_le, isi_none, isi_bool, isi_int, isi_str, isi_list, isi_tuple, isi_dict, dIs, dIsNot, isn_none, isn_int, isn_bool, isn_str, isn_tup, isn_lst, isn_dict, decide_eq_true_eq, Bool.not_eq_true, Nat.reduceLeDiff, Nat.reduceAdd, Nat.reduceSub, reduceIte, ite_self, h, this, Bool.false_and, Bool.not_false]
  | _ => simp -implicitDefEqProofs only [p_law_pair_rows, PL.bin, PL.un, PL.call, PL.ap0, PL.ap1, PL.ap2, PL.ap3, PL.ap4, PL.ap5, PL.ap6, PL.con, PL.blt, PL.tup, PL.lst, PL.lcP, PL.items, itemsOf, PL.sl, PL.bvP, PL.lvP, PL.kvP, p_vb, asI_i, PL.tgV, PL.tgO, PL.tgC, PL.tgT, PL.andP, PL.orP, PL.notP, PL.iteP, PL.isi, PL.cmp2, PL.appP, PL.thenR, PL.thenB, bind_r, bind_s, wp_ret, bind_ite, kv_of, kb_of, kl_of, kk_of, kf_v, kf_l, kk_val, e_chk, each_nil, each_cons, forN_nil, forN_cons, forB_nil, forB_cons, List.append_nil, List.nil_append, List.cons_append, List.length_cons, List.length_nil, Bool.false_eq_true, if_true, if_false, Bool.not_true, Bool.not_false, Nat.zero_add, Nat.le_refl, Nat.zero_le, isi_none, isi_bool, isi_int, isi_str, isi_list, isi_tuple, isi_dict, dIs, dIsNot, isn_none, isn_int, isn_bool, isn_str, isn_tup, isn_lst, isn_dict, decide_eq_true_eq, Bool.not_eq_true, Nat.reduceLeDiff, Nat.reduceAdd, Nat.reduceSub, reduceIte, ite_self]; rfl

/-! ### the positions from which who moves loses -/
abbrev Mv := List (Int × Int)
def lead (mv : Mv) (l : List Int) (k : Int) : Bool := mv.any fun x => decide (x.1 = k) && decide (x.2 ∈ l)
def lostL (mv : Mv) : Nat → List Int
  | 0 => []
  | m + 1 => if lead mv (lostL mv m) (m : Int) = true then lostL mv m else lostL mv m ++ [(m : Int)]
def gm (n : Int) (mv : Mv) (p : Int) : DL.D := .tuple [.int n, .tuple (mv.map movD), .int p]
structure Gm (n : Int) (mv : Mv) (p : Int) : Prop where
  n1 : 1 ≤ n
  n9 : n ≤ 14
  p0 : 0 ≤ p
  p1 : p < n
  m1 : ∀ x ∈ mv, 0 ≤ x.2 ∧ x.2 < x.1 ∧ x.1 < n
  ml : mv.length ≤ 25
section
variable {n p : Int} {mv : Mv}
theorem q0 : dIx (gm n mv p) (.int 0) = .ret (.v (.int n)) := dIx_tup (i := 0) rfl
theorem q1 : dIx (gm n mv p) (.int 1) = .ret (.v (.tuple (mv.map movD))) := dIx_tup (i := 1) rfl
theorem q2 : dIx (gm n mv p) (.int 2) = .ret (.v (.int p)) := dIx_tup (i := 2) rfl
theorem lead_iff {l : List Int} {k : Int} : lead mv l k = true ↔ ∃ x ∈ mv, x.1 = k ∧ x.2 ∈ l := by
  unfold lead
  rw [List.any_eq_true]
  simp only [Bool.and_eq_true, decide_eq_true_eq]
theorem lost_lt {m : Nat} : ∀ {x : Int}, x ∈ lostL mv m → 0 ≤ x ∧ x < m := by
  induction m with
  | zero => intro x h; cases h
  | succ m ih =>
    intro x h
    unfold lostL at h
    split at h
    · have := ih h; omega
    · rcases List.mem_append.mp h with h | h
      · have := ih h; omega
      · rw [List.mem_singleton.mp h]; omega
theorem lost_up : ∀ m : Nat, (lostL mv m).Pairwise (· < ·)
  | 0 => .nil
  | m + 1 => by
    unfold lostL
    split
    · exact lost_up m
    · refine List.pairwise_append.mpr ⟨lost_up m, List.pairwise_singleton _ _, fun a ha b hb => ?_⟩
      rw [List.mem_singleton.mp hb]
      exact (lost_lt ha).2
theorem lost_pre {m : Nat} {x : Int} : ∀ {s : Nat}, s ≤ m → x < s → (x ∈ lostL mv m ↔ x ∈ lostL mv s) := by
  induction m with
  | zero => intro s h _
            obtain rfl : s = 0 := by omega
            exact Iff.rfl
  | succ m ih =>
    intro s h hx
    by_cases e : s = m + 1
    · subst e; exact Iff.rfl
    · rw [← ih (by omega) hx]
      conv => lhs; unfold lostL
      split
      · exact Iff.rfl
      · rw [List.mem_append]
        refine ⟨fun h => h.elim id fun h => ?_, .inl⟩
        have := List.mem_singleton.mp h
        omega
theorem lost_iff (hm : ∀ x ∈ mv, x.2 < x.1) {m s : Nat} (h : s < m) : ((s : Int) ∈ lostL mv m ↔ ¬ ∃ x ∈ mv, x.1 = (s : Int) ∧ x.2 ∈ lostL mv m) := by
  have e1 : (∃ x ∈ mv, x.1 = (s : Int) ∧ x.2 ∈ lostL mv m) ↔ ∃ x ∈ mv, x.1 = (s : Int) ∧ x.2 ∈ lostL mv s :=
    ⟨fun ⟨t, h1, h2, h3⟩ => ⟨t, h1, h2, (lost_pre (by omega) (by have := hm t h1; omega)).mp h3⟩, fun ⟨t, h1, h2, h3⟩ => ⟨t, h1, h2, (lost_pre (by omega) (by have := hm t h1; omega)).mpr h3⟩⟩
  rw [e1, lost_pre (s := s + 1) (by omega) (by omega), ← lead_iff]
  conv => lhs; unfold lostL
  split
  · rename_i h
    exact ⟨fun z => absurd (lost_lt z).2 (by omega), fun z => absurd h z⟩
  · rename_i h
    exact ⟨fun _ => h, fun _ => List.mem_append_right _ (List.mem_singleton.mpr rfl)⟩
def K (n : Int) (mv : Mv) : List Int := lostL mv n.toNat
theorem K_iff (H : Gm n mv p) {s : Int} (h0 : 0 ≤ s) (h1 : s < n) : (s ∈ K n mv ↔ ¬ ∃ x ∈ mv, x.1 = s ∧ x.2 ∈ K n mv) := by
  have := lost_iff (fun x h => (H.m1 x h).2.1) (m := n.toNat) (s := s.toNat) (by omega)
  rwa [Int.toNat_of_nonneg h0] at this
theorem K_in {s : Int} (H : Gm n mv p) (h : s ∈ K n mv) : 0 ≤ s ∧ s < n := by
  have := lost_lt h
  have := H.n1
  omega
theorem K_len (H : Gm n mv p) : (K n mv).length ≤ 14 := by
  have := up_len (lost_up (mv := mv) n.toNat) fun i hi => lost_lt hi
  have h9 := H.n9
  have : (K n mv).length ≤ n.toNat := this
  omega
theorem lost_is' (H : Gm n mv p) : p_lost_positions (gm n mv p) = .ret (iL (K n mv)) := by
  have ⟨h0, h9, _, _, ht, hl⟩ := H
  have ml' : mv.length ≤ 100000 := by omega
  have e1 : rng1 [.int n] = .ret (iL (upto n.toNat)) := rng1_up (by omega) (by omega)
  simp -implicitDefEqProofs only [p_lost_positions, PL.bin, PL.un, PL.call, PL.ap0, PL.ap1, PL.ap2, PL.ap3, PL.ap4, PL.ap5, PL.ap6, PL.con, PL.blt, PL.tup, PL.lst, PL.lcP, PL.items, itemsOf, PL.sl, PL.bvP, PL.lvP, PL.kvP, p_vb, asI_i, PL.tgV, PL.tgO, PL.tgC, PL.tgT, PL.andP, PL.orP, PL.notP, PL.iteP, PL.isi, PL.cmp2, PL.appP, PL.thenR, PL.thenB, bind_r, bind_s, wp_ret, bind_ite, kv_of, kb_of, kl_of, kk_of, kf_v, kf_l, kk_val, e_chk, each_nil, each_cons, forN_nil, forN_cons, forB_nil, forB_cons, List.append_nil, List.nil_append, List.cons_append, List.length_cons, List.length_nil, Bool.false_eq_true, if_true, if_false, Bool.not_true, Bool.not_false, Nat.zero_add, Nat.le_refl, Nat.zero_le, isi_none, isi_bool, isi_int, isi_str, isi_list, isi_tuple, isi_dict, dIs, dIsNot, isn_none, isn_int, isn_bool, isn_str, isn_tup, isn_lst, isn_dict, decide_eq_true_eq, Bool.not_eq_true, Nat.reduceLeDiff, Nat.reduceAdd, Nat.reduceSub, reduceIte, ite_self, q0, q1, e1, List.length_map, ml']
  rw [forN_up (s := ([] : List DL.D)) n.toNat (fun m => iL (lostL mv m)) rfl]
  · rfl
  intro m hm
  rw [each_prss mv fun x => .bool (decide (x.1 = (m : Int)) && decide (x.2 ∈ lostL mv m))]
  rotate_left
  · intro x hx
    cases e : decide (x.1 = (m : Int)) <;> simp -implicitDefEqProofs only [PL.bin, PL.un, PL.call, PL.ap0, PL.ap1, PL.ap2, PL.ap3, PL.ap4, PL.ap5, PL.ap6, PL.con, PL.blt, PL.tup, PL.lst, PL.lcP, PL.items, itemsOf, PL.sl, PL.bvP, PL.lvP, PL.kvP, p_vb, asI_i, PL.tgV, PL.tgO, PL.tgC, PL.tgT, PL.andP, PL.orP, PL.notP, PL.iteP, PL.isi, PL.cmp2, PL.appP, PL.thenR, PL.thenB, bind_r, bind_s, wp_ret, bind_ite, kv_of, kb_of, kl_of, kk_of, kf_v, kf_l, kk_val, e_chk, each_nil, each_cons, forN_nil, forN_cons, forB_nil, forB_cons, List.append_nil, List.nil_append, List.cons_append, List.length_cons, List.length_nil, Bool.false_eq_true, if_true, if_false, Bool.not_true, Bool.not_false, Nat.zero_add, Nat.le_refl, Nat.zero_le, isi_none, isi_bool, isi_int, isi_str, isi_list, isi_tuple, isi_dict, dIs, dIsNot, isn_none, isn_int, isn_bool, isn_str, isn_tup, isn_lst, isn_dict, decide_eq_true_eq, Bool.not_eq_true, Nat.reduceLeDiff, Nat.reduceAdd, Nat.reduceSub, reduceIte, ite_self, dEq_int, dIn_il, e, Bool.true_and, Bool.false_and]
  have hlen : (lostL mv m).length ≤ 99999 := by
    have := up_len (lost_up (mv := mv) m) fun i hi => lost_lt hi
    omega
  simp -implicitDefEqProofs only [PL.bin, PL.un, PL.call, PL.ap0, PL.ap1, PL.ap2, PL.ap3, PL.ap4, PL.ap5, PL.ap6, PL.con, PL.blt, PL.tup, PL.lst, PL.lcP, PL.items, itemsOf, PL.sl, PL.bvP, PL.lvP, PL.kvP, p_vb, asI_i, PL.tgV, PL.tgO, PL.tgC, PL.tgT, PL.andP, PL.orP, PL.notP, PL.iteP, PL.isi, PL.cmp2, PL.appP, PL.thenR, PL.thenB, bind_r, bind_s, wp_ret, bind_ite, kv_of, kb_of, kl_of, kk_of, kf_v, kf_l, kk_val, e_chk, each_nil, each_cons, forN_nil, forN_cons, forB_nil, forB_cons, List.append_nil, List.nil_append, List.cons_append, List.length_cons, List.length_nil, Bool.false_eq_true, if_true, if_false, Bool.not_true, Bool.not_false, Nat.zero_add, Nat.le_refl, Nat.zero_le, isi_none, isi_bool, isi_int, isi_str, isi_list, isi_tuple, isi_dict, dIs, dIsNot, isn_none, isn_int, isn_bool, isn_str, isn_tup, isn_lst, isn_dict, decide_eq_true_eq, Bool.not_eq_true, Nat.reduceLeDiff, Nat.reduceAdd, Nat.reduceSub, reduceIte, ite_self, bAny_is, List.length_map, hlen]
  conv => rhs; unfold lostL
  show (if (!lead mv (lostL mv m) (m : Int)) = true then _ else _) = _
  cases lead mv (lostL mv m) (m : Int) with
  | true => rfl
  | false => simp only [Bool.not_false, if_true, if_false, Bool.false_eq_true, iL, List.map_append]; rfl
def wB (n : Int) (mv : Mv) (p : Int) : Bool := !decide (p ∈ K n mv)
def word (w : Bool) : Str := if w = true then "wins" else "loses"
def told (n : Int) (mv : Mv) (p : Int) : List DL.D := [.str (word (wB n mv p)), .tuple (iL (K n mv))]
theorem paper_is (H : Gm n mv p) : p_paper (gm n mv p) = .ret (.tuple (told n mv p)) := by
  unfold told wB word
  by_cases e : p ∈ K n mv <;> simp -implicitDefEqProofs only [p_paper, PL.bin, PL.un, PL.call, PL.ap0, PL.ap1, PL.ap2, PL.ap3, PL.ap4, PL.ap5, PL.ap6, PL.con, PL.blt, PL.tup, PL.lst, PL.lcP, PL.items, itemsOf, PL.sl, PL.bvP, PL.lvP, PL.kvP, p_vb, asI_i, PL.tgV, PL.tgO, PL.tgC, PL.tgT, PL.andP, PL.orP, PL.notP, PL.iteP, PL.isi, PL.cmp2, PL.appP, PL.thenR, PL.thenB, bind_r, bind_s, wp_ret, bind_ite, kv_of, kb_of, kl_of, kk_of, kf_v, kf_l, kk_val, e_chk, each_nil, each_cons, forN_nil, forN_cons, forB_nil, forB_cons, List.append_nil, List.nil_append, List.cons_append, List.length_cons, List.length_nil, Bool.false_eq_true, if_true, if_false, Bool.not_true, Bool.not_false, Nat.zero_add, Nat.le_refl, Nat.zero_le, isi_none, isi_bool, isi_int, isi_str, isi_list, isi_tuple, isi_dict, dIs, dIsNot, isn_none, isn_int, isn_bool, isn_str, isn_tup, isn_lst, isn_dict, decide_eq_true_eq, Bool.not_eq_true, Nat.reduceLeDiff, Nat.reduceAdd, Nat.reduceSub, reduceIte, ite_self, lost_is' H, bTuple_list, q2, dIn_it, e, decide_true, decide_false]
theorem holds_is (H : Gm n mv p) : p_holds (gm n mv p) = .ret (wB n mv p) := by
  unfold wB
  simp -implicitDefEqProofs only [p_holds, PL.bin, PL.un, PL.call, PL.ap0, PL.ap1, PL.ap2, PL.ap3, PL.ap4, PL.ap5, PL.ap6, PL.con, PL.blt, PL.tup, PL.lst, PL.lcP, PL.items, itemsOf, PL.sl, PL.bvP, PL.lvP, PL.kvP, p_vb, asI_i, PL.tgV, PL.tgO, PL.tgC, PL.tgT, PL.andP, PL.orP, PL.notP, PL.iteP, PL.isi, PL.cmp2, PL.appP, PL.thenR, PL.thenB, bind_r, bind_s, wp_ret, bind_ite, kv_of, kb_of, kl_of, kk_of, kf_v, kf_l, kk_val, e_chk, each_nil, each_cons, forN_nil, forN_cons, forB_nil, forB_cons, List.append_nil, List.nil_append, List.cons_append, List.length_cons, List.length_nil, Bool.false_eq_true, if_true, if_false, Bool.not_true, Bool.not_false, Nat.zero_add, Nat.le_refl, Nat.zero_le, isi_none, isi_bool, isi_int, isi_str, isi_list, isi_tuple, isi_dict, dIs, dIsNot, isn_none, isn_int, isn_bool, isn_str, isn_tup, isn_lst, isn_dict, decide_eq_true_eq, Bool.not_eq_true, Nat.reduceLeDiff, Nat.reduceAdd, Nat.reduceSub, reduceIte, ite_self, lost_is' H, q2, dNotIn_il]
theorem mv_ok (H : Gm n mv p) : movOk mv = true := by
  unfold movOk
  rw [Bool.and_eq_true]
  exact ⟨decide_eq_true (by have := H.ml; omega), List.all_eq_true.mpr fun x hx => decide_eq_true (by have := H.m1 x hx; omega)⟩
theorem win_is (H : Gm n mv p) : ∀ (f : Nat) (s : Int), 0 ≤ s → s < f → s < n → winF mv f s = !decide (s ∈ K n mv) := by
  intro f
  induction f with
  | zero => intro s h0 h1; omega
  | succ f ih =>
    intro s h0 h1 h2
    have k := K_iff H h0 h2
    unfold winF
    rw [Bool.eq_iff_iff, List.any_eq_true, Bool.not_eq_true', decide_eq_false_iff_not, k, Classical.not_not]
    constructor
    · rintro ⟨x, hx, h⟩
      rw [Bool.and_eq_true] at h
      have e := of_decide_eq_true h.1
      have q3 := H.m1 x hx
      have := ih x.2 (by omega) (by omega) (by omega)
      have h4 := h.2
      rw [this, Bool.not_not, decide_eq_true_eq] at h4
      exact ⟨x, hx, e, h4⟩
    · rintro ⟨x, hx, e, h4⟩
      have q3 := H.m1 x hx
      have := ih x.2 (by omega) (by omega) (by omega)
      refine ⟨x, hx, ?_⟩
      rw [this, decide_eq_true h4, decide_eq_true e]; rfl
theorem yes_is (H : Gm n mv p) : p_law_yes_games (gm n mv p) = .ret (wB n mv p) := by
  have ⟨h0, h9, a, b, ht, hl⟩ := H
  have w := winP_is (i := p) a (by omega) (mv_ok H)
  simp -implicitDefEqProofs only [p_law_yes_games, PL.bin, PL.un, PL.call, PL.ap0, PL.ap1, PL.ap2, PL.ap3, PL.ap4, PL.ap5, PL.ap6, PL.con, PL.blt, PL.tup, PL.lst, PL.lcP, PL.items, itemsOf, PL.sl, PL.bvP, PL.lvP, PL.kvP, p_vb, asI_i, PL.tgV, PL.tgO, PL.tgC, PL.tgT, PL.andP, PL.orP, PL.notP, PL.iteP, PL.isi, PL.cmp2, PL.appP, PL.thenR, PL.thenB, bind_r, bind_s, wp_ret, bind_ite, kv_of, kb_of, kl_of, kk_of, kf_v, kf_l, kk_val, e_chk, each_nil, each_cons, forN_nil, forN_cons, forB_nil, forB_cons, List.append_nil, List.nil_append, List.cons_append, List.length_cons, List.length_nil, Bool.false_eq_true, if_true, if_false, Bool.not_true, Bool.not_false, Nat.zero_add, Nat.le_refl, Nat.zero_le, isi_none, isi_bool, isi_int, isi_str, isi_list, isi_tuple, isi_dict, dIs, dIsNot, isn_none, isn_int, isn_bool, isn_str, isn_tup, isn_lst, isn_dict, decide_eq_true_eq, Bool.not_eq_true, Nat.reduceLeDiff, Nat.reduceAdd, Nat.reduceSub, reduceIte, ite_self, q1, q2, w]
  rw [win_is H 40 p a (by omega) b]; rfl
/-! ### faults -/
def sF (n : Int) (mv : Mv) (l : List Int) : DL.D := fin (fau "inner" (firstI n.toNat fun k => decide ((k : Int) ∈ l) && lead mv l (k : Int))) (fau "outer" (firstI n.toNat fun k => !decide ((k : Int) ∈ l) && !lead mv l (k : Int)))
theorem sF_flt (n : Int) (mv : Mv) (l : List Int) : Flt (sF n mv l) := ((firstI_plc _ _).fau (by decide) (by decide)).fin ((firstI_plc _ _).fau (by decide) (by decide))
def st (p : Int) (l : List Int) (b : Bool) : DL.D := if (decide (p ∈ l) != b) = true then .int p else .none
theorem leads_is (H : Gm n mv p) (l : List Int) (k : Int) : p_leads_into (gm n mv p) (.tuple (iL l)) (.int k) = .ret (lead mv l k) := by
  have ml' : mv.length ≤ 100000 := by have := H.ml; omega
  simp -implicitDefEqProofs only [p_leads_into, PL.bin, PL.un, PL.call, PL.ap0, PL.ap1, PL.ap2, PL.ap3, PL.ap4, PL.ap5, PL.ap6, PL.con, PL.blt, PL.tup, PL.lst, PL.lcP, PL.items, itemsOf, PL.sl, PL.bvP, PL.lvP, PL.kvP, p_vb, asI_i, PL.tgV, PL.tgO, PL.tgC, PL.tgT, PL.andP, PL.orP, PL.notP, PL.iteP, PL.isi, PL.cmp2, PL.appP, PL.thenR, PL.thenB, bind_r, bind_s, wp_ret, bind_ite, kv_of, kb_of, kl_of, kk_of, kf_v, kf_l, kk_val, e_chk, each_nil, each_cons, forN_nil, forN_cons, forB_nil, forB_cons, List.append_nil, List.nil_append, List.cons_append, List.length_cons, List.length_nil, Bool.false_eq_true, if_true, if_false, Bool.not_true, Bool.not_false, Nat.zero_add, Nat.le_refl, Nat.zero_le, isi_none, isi_bool, isi_int, isi_str, isi_list, isi_tuple, isi_dict, dIs, dIsNot, isn_none, isn_int, isn_bool, isn_str, isn_tup, isn_lst, isn_dict, decide_eq_true_eq, Bool.not_eq_true, Nat.reduceLeDiff, Nat.reduceAdd, Nat.reduceSub, reduceIte, ite_self, q1, List.length_map, ml']
  rw [each_prss mv fun x => .bool (decide (x.1 = k) && decide (x.2 ∈ l))]
  · simp -implicitDefEqProofs only [PL.bin, PL.un, PL.call, PL.ap0, PL.ap1, PL.ap2, PL.ap3, PL.ap4, PL.ap5, PL.ap6, PL.con, PL.blt, PL.tup, PL.lst, PL.lcP, PL.items, itemsOf, PL.sl, PL.bvP, PL.lvP, PL.kvP, p_vb, asI_i, PL.tgV, PL.tgO, PL.tgC, PL.tgT, PL.andP, PL.orP, PL.notP, PL.iteP, PL.isi, PL.cmp2, PL.appP, PL.thenR, PL.thenB, bind_r, bind_s, wp_ret, bind_ite, kv_of, kb_of, kl_of, kk_of, kf_v, kf_l, kk_val, e_chk, each_nil, each_cons, forN_nil, forN_cons, forB_nil, forB_cons, List.append_nil, List.nil_append, List.cons_append, List.length_cons, List.length_nil, Bool.false_eq_true, if_true, if_false, Bool.not_true, Bool.not_false, Nat.zero_add, Nat.le_refl, Nat.zero_le, isi_none, isi_bool, isi_int, isi_str, isi_list, isi_tuple, isi_dict, dIs, dIsNot, isn_none, isn_int, isn_bool, isn_str, isn_tup, isn_lst, isn_dict, decide_eq_true_eq, Bool.not_eq_true, Nat.reduceLeDiff, Nat.reduceAdd, Nat.reduceSub, reduceIte, ite_self, bAny_is]; rfl
  intro x hx
  cases e : decide (x.1 = k) <;> simp -implicitDefEqProofs only [PL.bin, PL.un, PL.call, PL.ap0, PL.ap1, PL.ap2, PL.ap3, PL.ap4, PL.ap5, PL.ap6, PL.con, PL.blt, PL.tup, PL.lst, PL.lcP, PL.items, itemsOf, PL.sl, PL.bvP, PL.lvP, PL.kvP, p_vb, asI_i, PL.tgV, PL.tgO, PL.tgC, PL.tgT, PL.andP, PL.orP, PL.notP, PL.iteP, PL.isi, PL.cmp2, PL.appP, PL.thenR, PL.thenB, bind_r, bind_s, wp_ret, bind_ite, kv_of, kb_of, kl_of, kk_of, kf_v, kf_l, kk_val, e_chk, each_nil, each_cons, forN_nil, forN_cons, forB_nil, forB_cons, List.append_nil, List.nil_append, List.cons_append, List.length_cons, List.length_nil, Bool.false_eq_true, if_true, if_false, Bool.not_true, Bool.not_false, Nat.zero_add, Nat.le_refl, Nat.zero_le, isi_none, isi_bool, isi_int, isi_str, isi_list, isi_tuple, isi_dict, dIs, dIsNot, isn_none, isn_int, isn_bool, isn_str, isn_tup, isn_lst, isn_dict, decide_eq_true_eq, Bool.not_eq_true, Nat.reduceLeDiff, Nat.reduceAdd, Nat.reduceSub, reduceIte, ite_self, dEq_int, dIn_it, e, Bool.true_and, Bool.false_and]
theorem set_fault_is (H : Gm n mv p) (l : List Int) (b : Bool) : p_set_fault (gm n mv p) (.tuple (iL l)) (.bool b) = .ret (fin (sF n mv l) (fau "start" (st p l b))) := by
  have ⟨h0, h9, _, _, ht, hl⟩ := H
  have b1 : big n = true := by unfold big; exact decide_eq_true (by omega)
  have e1 : rgI 0 n = .ret (iL (upto n.toNat)) := by
    unfold rgI
    rw [if_pos ⟨by decide, b1⟩, ← rng_up]; congr 2; omega
  have ul : (upto n.toNat).length ≤ 100000 := by rw [upto_len]; omega
  have nn : n.toNat ≤ 100000 := by omega
  simp -implicitDefEqProofs only [p_set_fault, PL.bin, PL.un, PL.call, PL.ap0, PL.ap1, PL.ap2, PL.ap3, PL.ap4, PL.ap5, PL.ap6, PL.con, PL.blt, PL.tup, PL.lst, PL.lcP, PL.items, itemsOf, PL.sl, PL.bvP, PL.lvP, PL.kvP, p_vb, asI_i, PL.tgV, PL.tgO, PL.tgC, PL.tgT, PL.andP, PL.orP, PL.notP, PL.iteP, PL.isi, PL.cmp2, PL.appP, PL.thenR, PL.thenB, bind_r, bind_s, wp_ret, bind_ite, kv_of, kb_of, kl_of, kk_of, kf_v, kf_l, kk_val, e_chk, each_nil, each_cons, forN_nil, forN_cons, forB_nil, forB_cons, List.append_nil, List.nil_append, List.cons_append, List.length_cons, List.length_nil, Bool.false_eq_true, if_true, if_false, Bool.not_true, Bool.not_false, Nat.zero_add, Nat.le_refl, Nat.zero_le, isi_none, isi_bool, isi_int, isi_str, isi_list, isi_tuple, isi_dict, dIs, dIsNot, isn_none, isn_int, isn_bool, isn_str, isn_tup, isn_lst, isn_dict, decide_eq_true_eq, Bool.not_eq_true, Nat.reduceLeDiff, Nat.reduceAdd, Nat.reduceSub, reduceIte, ite_self, rgP, b1, e1, q0, q2, List.length_map, ul]
  rw [each_ups n.toNat fun k => .bool (decide ((k : Int) ∈ l) && lead mv l (k : Int))]
  rotate_left
  · intro k hk
    cases e : decide ((k : Int) ∈ l) <;> simp -implicitDefEqProofs only [PL.bin, PL.un, PL.call, PL.ap0, PL.ap1, PL.ap2, PL.ap3, PL.ap4, PL.ap5, PL.ap6, PL.con, PL.blt, PL.tup, PL.lst, PL.lcP, PL.items, itemsOf, PL.sl, PL.bvP, PL.lvP, PL.kvP, p_vb, asI_i, PL.tgV, PL.tgO, PL.tgC, PL.tgT, PL.andP, PL.orP, PL.notP, PL.iteP, PL.isi, PL.cmp2, PL.appP, PL.thenR, PL.thenB, bind_r, bind_s, wp_ret, bind_ite, kv_of, kb_of, kl_of, kk_of, kf_v, kf_l, kk_val, e_chk, each_nil, each_cons, forN_nil, forN_cons, forB_nil, forB_cons, List.append_nil, List.nil_append, List.cons_append, List.length_cons, List.length_nil, Bool.false_eq_true, if_true, if_false, Bool.not_true, Bool.not_false, Nat.zero_add, Nat.le_refl, Nat.zero_le, isi_none, isi_bool, isi_int, isi_str, isi_list, isi_tuple, isi_dict, dIs, dIsNot, isn_none, isn_int, isn_bool, isn_str, isn_tup, isn_lst, isn_dict, decide_eq_true_eq, Bool.not_eq_true, Nat.reduceLeDiff, Nat.reduceAdd, Nat.reduceSub, reduceIte, ite_self, dIn_it, e, leads_is H, Bool.true_and, Bool.false_and]
  simp -implicitDefEqProofs only [PL.bin, PL.un, PL.call, PL.ap0, PL.ap1, PL.ap2, PL.ap3, PL.ap4, PL.ap5, PL.ap6, PL.con, PL.blt, PL.tup, PL.lst, PL.lcP, PL.items, itemsOf, PL.sl, PL.bvP, PL.lvP, PL.kvP, p_vb, asI_i, PL.tgV, PL.tgO, PL.tgC, PL.tgT, PL.andP, PL.orP, PL.notP, PL.iteP, PL.isi, PL.cmp2, PL.appP, PL.thenR, PL.thenB, bind_r, bind_s, wp_ret, bind_ite, kv_of, kb_of, kl_of, kk_of, kf_v, kf_l, kk_val, e_chk, each_nil, each_cons, forN_nil, forN_cons, forB_nil, forB_cons, List.append_nil, List.nil_append, List.cons_append, List.length_cons, List.length_nil, Bool.false_eq_true, if_true, if_false, Bool.not_true, Bool.not_false, Nat.zero_add, Nat.le_refl, Nat.zero_le, isi_none, isi_bool, isi_int, isi_str, isi_list, isi_tuple, isi_dict, dIs, dIsNot, isn_none, isn_int, isn_bool, isn_str, isn_tup, isn_lst, isn_dict, decide_eq_true_eq, Bool.not_eq_true, Nat.reduceLeDiff, Nat.reduceAdd, Nat.reduceSub, reduceIte, ite_self, first_true_is nn]
  rw [each_ups n.toNat fun k => .bool (!decide ((k : Int) ∈ l) && !lead mv l (k : Int))]
  rotate_left
  · intro k hk
    cases e : decide ((k : Int) ∈ l) <;> simp -implicitDefEqProofs only [PL.bin, PL.un, PL.call, PL.ap0, PL.ap1, PL.ap2, PL.ap3, PL.ap4, PL.ap5, PL.ap6, PL.con, PL.blt, PL.tup, PL.lst, PL.lcP, PL.items, itemsOf, PL.sl, PL.bvP, PL.lvP, PL.kvP, p_vb, asI_i, PL.tgV, PL.tgO, PL.tgC, PL.tgT, PL.andP, PL.orP, PL.notP, PL.iteP, PL.isi, PL.cmp2, PL.appP, PL.thenR, PL.thenB, bind_r, bind_s, wp_ret, bind_ite, kv_of, kb_of, kl_of, kk_of, kf_v, kf_l, kk_val, e_chk, each_nil, each_cons, forN_nil, forN_cons, forB_nil, forB_cons, List.append_nil, List.nil_append, List.cons_append, List.length_cons, List.length_nil, Bool.false_eq_true, if_true, if_false, Bool.not_true, Bool.not_false, Nat.zero_add, Nat.le_refl, Nat.zero_le, isi_none, isi_bool, isi_int, isi_str, isi_list, isi_tuple, isi_dict, dIs, dIsNot, isn_none, isn_int, isn_bool, isn_str, isn_tup, isn_lst, isn_dict, decide_eq_true_eq, Bool.not_eq_true, Nat.reduceLeDiff, Nat.reduceAdd, Nat.reduceSub, reduceIte, ite_self, dNotIn_it, e, leads_is H, Bool.true_and, Bool.false_and]
  unfold sF st
  rw [fin_assoc]
  cases e : (decide (p ∈ l) != b) <;> simp -implicitDefEqProofs only [PL.bin, PL.un, PL.call, PL.ap0, PL.ap1, PL.ap2, PL.ap3, PL.ap4, PL.ap5, PL.ap6, PL.con, PL.blt, PL.tup, PL.lst, PL.lcP, PL.items, itemsOf, PL.sl, PL.bvP, PL.lvP, PL.kvP, p_vb, asI_i, PL.tgV, PL.tgO, PL.tgC, PL.tgT, PL.andP, PL.orP, PL.notP, PL.iteP, PL.isi, PL.cmp2, PL.appP, PL.thenR, PL.thenB, bind_r, bind_s, wp_ret, bind_ite, kv_of, kb_of, kl_of, kk_of, kf_v, kf_l, kk_val, e_chk, each_nil, each_cons, forN_nil, forN_cons, forB_nil, forB_cons, List.append_nil, List.nil_append, List.cons_append, List.length_cons, List.length_nil, Bool.false_eq_true, if_true, if_false, Bool.not_true, Bool.not_false, Nat.zero_add, Nat.le_refl, Nat.zero_le, isi_none, isi_bool, isi_int, isi_str, isi_list, isi_tuple, isi_dict, dIs, dIsNot, isn_none, isn_int, isn_bool, isn_str, isn_tup, isn_lst, isn_dict, decide_eq_true_eq, Bool.not_eq_true, Nat.reduceLeDiff, Nat.reduceAdd, Nat.reduceSub, reduceIte, ite_self, first_true_is nn, fault_at_w, first_of3, dIn_it, dNe_bl, e]
def inL (l : List Int) : DL.D → Bool
  | .int i => decide (i ∈ l)
  | _ => false
def nxs (n : Int) (mv : Mv) : List DL.D := (List.range n.toNat).map fun (k : Nat) => .list ((mv.filter fun x => decide (x.1 = (k : Int))).map fun x => .int x.2)
theorem any_filt {α β : Type} (l : List α) (b : α → Bool) (f : α → β) (g : β → Bool) : ((l.filter b).map f).any g = l.any fun x => b x && g (f x) := by
  induction l with
  | nil => rfl
  | cons x l ih =>
    rw [List.filter_cons, List.any_cons, ← ih]
    cases b x with
    | true => rw [if_pos rfl, List.map_cons, List.any_cons, Bool.true_and]
    | false => rw [if_neg (by decide), Bool.false_and, Bool.false_or]
theorem lost_of (H : Gm n mv p) (l : List Int) : p_law_lost_faults (.list (iL (upto n.toNat))) (.tuple (iL l)) (.list (nxs n mv)) = .ret (sF n mv l) := by
  have ⟨h0, h9, _, _, ht, hl⟩ := H
  have := lost_is (n := n.toNat) (by omega) (ev := fun k => .int (k : Int)) (nx := fun k => (mv.filter fun x => decide (x.1 = (k : Int))).map fun x => .int x.2) (row := .tuple (iL l)) (M := inL l) (fun k _ => dIn_it _ _) (fun k _ x hx => by
    obtain ⟨t, _, rfl⟩ := List.mem_map.mp hx
    exact dIn_it _ _) (fun k _ => by
      rw [List.length_map]
      have := List.length_filter_le (fun x : Int × Int => decide (x.1 = (k : Int))) mv
      omega)
  have e : iL (upto n.toNat) = (List.range n.toNat).map fun (k : Nat) => .int (k : Int) := by unfold upto; rw [iL, List.map_map]; rfl
  unfold nxs
  rw [e, this]
  unfold lostF sF
  rw [firstP_cons, firstP_cons, firstP, fin_none]
  simp only [any_filt]; rfl
theorem f_tail (H : Gm n mv p) {κ : List DL.D → List DL.D → T DL.D} : (T.bind (lrgP (bin KV dIx (T.ret (gm n mv p)) (T.ret ((.int 0) : DL.D)))) fun every_1 =>
    (T.bind (lcP tgV (fun k_4 => (T.ret true)) (fun k_4 => (lvP (lcP (tgT 2 (tgC tgV (tgO tgV))) (fun s5 => (bin KB dEq (T.ret s5.1) (T.ret k_4))) (fun s5 => (T.ret s5.2)) (items (bin KV dIx (T.ret (gm n mv p)) (T.ret ((.int 1) : DL.D))))))) (items (T.ret (.list every_1 : DL.D)))) fun nexts_2 => κ every_1 nexts_2)) =
    κ (iL (upto n.toNat)) (nxs n mv) := by
  have ⟨h0, h9, _, _, ht, hl⟩ := H
  have ml' : mv.length ≤ 100000 := by omega
  have e1 : rng1 [.int n] = .ret (iL (upto n.toNat)) := rng1_up (by omega) (by omega)
  have ul : (upto n.toNat).length ≤ 100000 := by rw [upto_len]; omega
  simp -implicitDefEqProofs only [lrgP, PL.bin, PL.un, PL.call, PL.ap0, PL.ap1, PL.ap2, PL.ap3, PL.ap4, PL.ap5, PL.ap6, PL.con, PL.blt, PL.tup, PL.lst, PL.lcP, PL.items, itemsOf, PL.sl, PL.bvP, PL.lvP, PL.kvP, p_vb, asI_i, PL.tgV, PL.tgO, PL.tgC, PL.tgT, PL.andP, PL.orP, PL.notP, PL.iteP, PL.isi, PL.cmp2, PL.appP, PL.thenR, PL.thenB, bind_r, bind_s, wp_ret, bind_ite, kv_of, kb_of, kl_of, kk_of, kf_v, kf_l, kk_val, e_chk, each_nil, each_cons, forN_nil, forN_cons, forB_nil, forB_cons, List.append_nil, List.nil_append, List.cons_append, List.length_cons, List.length_nil, Bool.false_eq_true, if_true, if_false, Bool.not_true, Bool.not_false, Nat.zero_add, Nat.le_refl, Nat.zero_le, isi_none, isi_bool, isi_int, isi_str, isi_list, isi_tuple, isi_dict, dIs, dIsNot, isn_none, isn_int, isn_bool, isn_str, isn_tup, isn_lst, isn_dict, decide_eq_true_eq, Bool.not_eq_true, Nat.reduceLeDiff, Nat.reduceAdd, Nat.reduceSub, reduceIte, ite_self, q0, q1, e1, List.length_map, ul, ml']
  rw [each_ups n.toNat fun k => .list ((mv.filter fun x => decide (x.1 = (k : Int))).map fun x => .int x.2)]
  · rfl
  intro k _
  rw [each_prs mv (fun x => decide (x.1 = (k : Int))) fun x => .int x.2]
  · rfl
  · intro x _; simp -implicitDefEqProofs only [PL.bin, PL.un, PL.call, PL.ap0, PL.ap1, PL.ap2, PL.ap3, PL.ap4, PL.ap5, PL.ap6, PL.con, PL.blt, PL.tup, PL.lst, PL.lcP, PL.items, itemsOf, PL.sl, PL.bvP, PL.lvP, PL.kvP, p_vb, asI_i, PL.tgV, PL.tgO, PL.tgC, PL.tgT, PL.andP, PL.orP, PL.notP, PL.iteP, PL.isi, PL.cmp2, PL.appP, PL.thenR, PL.thenB, bind_r, bind_s, wp_ret, bind_ite, kv_of, kb_of, kl_of, kk_of, kf_v, kf_l, kk_val, e_chk, each_nil, each_cons, forN_nil, forN_cons, forB_nil, forB_cons, List.append_nil, List.nil_append, List.cons_append, List.length_cons, List.length_nil, Bool.false_eq_true, if_true, if_false, Bool.not_true, Bool.not_false, Nat.zero_add, Nat.le_refl, Nat.zero_le, isi_none, isi_bool, isi_int, isi_str, isi_list, isi_tuple, isi_dict, dIs, dIsNot, isn_none, isn_int, isn_bool, isn_str, isn_tup, isn_lst, isn_dict, decide_eq_true_eq, Bool.not_eq_true, Nat.reduceLeDiff, Nat.reduceAdd, Nat.reduceSub, reduceIte, ite_self, dEq_int]
  · intro x _ _; rfl
theorem faults (H : Gm n mv p) (v : DL.D) (hv : Fine v) : ∃ d, p_fault (gm n mv p) v = .ret d ∧ p_law_f_games (gm n mv p) v = .ret d ∧ Flt d := by
  have good : ∀ (b : Bool) (s : Str) (u : DL.D), named (.tuple [.str s, u]) "wins" 2 = (!b) → named (.tuple [.str s, u]) "loses" 2 = b → dEq (.str s) (.str "loses") = .ret (.v (.bool b)) → v = .tuple [.str s, u] → ∃ d, p_fault (gm n mv p) v = .ret d ∧ p_law_f_games (gm n mv p) v = .ret d ∧ Flt d := fun b s u hW hL hs e => by
    subst e
    have lu : lenOk u = true := Fine.part hv (k := 1) rfl
    by_cases hr : rowS u 0 (n - 1) = true
    · obtain ⟨l, rfl, h1, h2⟩ := rowS_some hr
      refine ⟨fin (sF n mv l) (fau "start" (st p l b)), ?_, ?_, (sF_flt _ _ _).fin ((Plc.ite (.int p) .none).fau (by decide) (by decide))⟩
      · cases b <;> simp -implicitDefEqProofs only [p_fault, PL.bin, PL.un, PL.call, PL.ap0, PL.ap1, PL.ap2, PL.ap3, PL.ap4, PL.ap5, PL.ap6, PL.con, PL.blt, PL.tup, PL.lst, PL.lcP, PL.items, itemsOf, PL.sl, PL.bvP, PL.lvP, PL.kvP, p_vb, asI_i, PL.tgV, PL.tgO, PL.tgC, PL.tgT, PL.andP, PL.orP, PL.notP, PL.iteP, PL.isi, PL.cmp2, PL.appP, PL.thenR, PL.thenB, bind_r, bind_s, wp_ret, bind_ite, kv_of, kb_of, kl_of, kk_of, kf_v, kf_l, kk_val, e_chk, each_nil, each_cons, forN_nil, forN_cons, forB_nil, forB_cons, List.append_nil, List.nil_append, List.cons_append, List.length_cons, List.length_nil, Bool.false_eq_true, if_true, if_false, Bool.not_true, Bool.not_false, Nat.zero_add, Nat.le_refl, Nat.zero_le, isi_none, isi_bool, isi_int, isi_str, isi_list, isi_tuple, isi_dict, dIs, dIsNot, isn_none, isn_int, isn_bool, isn_str, isn_tup, isn_lst, isn_dict, decide_eq_true_eq, Bool.not_eq_true, Nat.reduceLeDiff, Nat.reduceAdd, Nat.reduceSub, reduceIte, ite_self, h_named, t2, p2, hW, hL, i20, i21, q0, dSub_int, rising_row_is lu, hr, hs, set_fault_is H]
      · unfold p_law_f_games
        have ft := f_tail (p := p) H (κ := fun every_1 nexts_2 => T.bind (PL.call (ap3 p_law_lost_faults) (con (T.ret (.list every_1 : DL.D)) (con (bin KV dIx (T.ret (.tuple [.str s, .tuple (iL l)])) (T.ret ((.int 1) : DL.D))) (con (T.ret (.list nexts_2 : DL.D)) (T.ret []))))) fun found_6 => (iteP (bin KB dIsNot (T.ret found_6) (T.ret (.none : DL.D))) (T.ret found_6) (iteP (bin KB dNe (bvP (bin KB dIn (bin KV dIx (T.ret (gm n mv p)) (T.ret ((.int 2) : DL.D))) (bin KV dIx (T.ret (.tuple [.str s, .tuple (iL l)])) (T.ret ((.int 1) : DL.D))))) (bvP (bin KB dEq (bin KV dIx (T.ret (.tuple [.str s, .tuple (iL l)])) (T.ret ((.int 0) : DL.D))) (T.ret ((.str "loses") : DL.D))))) (tup (con (T.ret ((.str "start") : DL.D)) (con (bin KV dIx (T.ret (gm n mv p)) (T.ret ((.int 2) : DL.D))) (T.ret [])))) (T.ret (.none : DL.D)))))
        rw [ft]
        unfold fin st
        cases e1 : isNone (sF n mv l) <;> cases e2 : (decide (p ∈ l) != b) <;> cases b <;> simp -implicitDefEqProofs only [PL.bin, PL.un, PL.call, PL.ap0, PL.ap1, PL.ap2, PL.ap3, PL.ap4, PL.ap5, PL.ap6, PL.con, PL.blt, PL.tup, PL.lst, PL.lcP, PL.items, itemsOf, PL.sl, PL.bvP, PL.lvP, PL.kvP, p_vb, asI_i, PL.tgV, PL.tgO, PL.tgC, PL.tgT, PL.andP, PL.orP, PL.notP, PL.iteP, PL.isi, PL.cmp2, PL.appP, PL.thenR, PL.thenB, bind_r, bind_s, wp_ret, bind_ite, kv_of, kb_of, kl_of, kk_of, kf_v, kf_l, kk_val, e_chk, each_nil, each_cons, forN_nil, forN_cons, forB_nil, forB_cons, List.append_nil, List.nil_append, List.cons_append, List.length_cons, List.length_nil, Bool.false_eq_true, if_true, if_false, Bool.not_true, Bool.not_false, Nat.zero_add, Nat.le_refl, Nat.zero_le, isi_none, isi_bool, isi_int, isi_str, isi_list, isi_tuple, isi_dict, dIs, dIsNot, isn_none, isn_int, isn_bool, isn_str, isn_tup, isn_lst, isn_dict, decide_eq_true_eq, Bool.not_eq_true, Nat.reduceLeDiff, Nat.reduceAdd, Nat.reduceSub, reduceIte, ite_self, h_word, t2, p2, hW, hL, i20, i21, q0, q2, dSub_int, up_row_is lu, hr, hs, lost_of H, e1, e2, dIn_it, dNe_bl] <;> rfl
    · rw [Bool.not_eq_true] at hr
      refine ⟨form, ?_, ?_, .form⟩
      · cases b <;> simp -implicitDefEqProofs only [p_fault, PL.bin, PL.un, PL.call, PL.ap0, PL.ap1, PL.ap2, PL.ap3, PL.ap4, PL.ap5, PL.ap6, PL.con, PL.blt, PL.tup, PL.lst, PL.lcP, PL.items, itemsOf, PL.sl, PL.bvP, PL.lvP, PL.kvP, p_vb, asI_i, PL.tgV, PL.tgO, PL.tgC, PL.tgT, PL.andP, PL.orP, PL.notP, PL.iteP, PL.isi, PL.cmp2, PL.appP, PL.thenR, PL.thenB, bind_r, bind_s, wp_ret, bind_ite, kv_of, kb_of, kl_of, kk_of, kf_v, kf_l, kk_val, e_chk, each_nil, each_cons, forN_nil, forN_cons, forB_nil, forB_cons, List.append_nil, List.nil_append, List.cons_append, List.length_cons, List.length_nil, Bool.false_eq_true, if_true, if_false, Bool.not_true, Bool.not_false, Nat.zero_add, Nat.le_refl, Nat.zero_le, isi_none, isi_bool, isi_int, isi_str, isi_list, isi_tuple, isi_dict, dIs, dIsNot, isn_none, isn_int, isn_bool, isn_str, isn_tup, isn_lst, isn_dict, decide_eq_true_eq, Bool.not_eq_true, Nat.reduceLeDiff, Nat.reduceAdd, Nat.reduceSub, reduceIte, ite_self, h_named, t2, p2, hW, hL, i21, q0, dSub_int, rising_row_is lu, hr] <;> rfl
      · cases b <;> simp -implicitDefEqProofs only [p_law_f_games, PL.bin, PL.un, PL.call, PL.ap0, PL.ap1, PL.ap2, PL.ap3, PL.ap4, PL.ap5, PL.ap6, PL.con, PL.blt, PL.tup, PL.lst, PL.lcP, PL.items, itemsOf, PL.sl, PL.bvP, PL.lvP, PL.kvP, p_vb, asI_i, PL.tgV, PL.tgO, PL.tgC, PL.tgT, PL.andP, PL.orP, PL.notP, PL.iteP, PL.isi, PL.cmp2, PL.appP, PL.thenR, PL.thenB, bind_r, bind_s, wp_ret, bind_ite, kv_of, kb_of, kl_of, kk_of, kf_v, kf_l, kk_val, e_chk, each_nil, each_cons, forN_nil, forN_cons, forB_nil, forB_cons, List.append_nil, List.nil_append, List.cons_append, List.length_cons, List.length_nil, Bool.false_eq_true, if_true, if_false, Bool.not_true, Bool.not_false, Nat.zero_add, Nat.le_refl, Nat.zero_le, isi_none, isi_bool, isi_int, isi_str, isi_list, isi_tuple, isi_dict, dIs, dIsNot, isn_none, isn_int, isn_bool, isn_str, isn_tup, isn_lst, isn_dict, decide_eq_true_eq, Bool.not_eq_true, Nat.reduceLeDiff, Nat.reduceAdd, Nat.reduceSub, reduceIte, ite_self, h_word, t2, p2, hW, hL, i21, q0, dSub_int, up_row_is lu, hr] <;> rfl
  by_cases hW : named v "wins" 2 = true
  · obtain ⟨u, e⟩ := named2 hW
    exact good false _ u (by rw [nm2]; decide) (by rw [nm2]; decide) (by rw [dEq_str]; rfl) e
  · by_cases hL : named v "loses" 2 = true
    · obtain ⟨u, e⟩ := named2 hL
      exact good true _ u (by rw [nm2]; decide) (by rw [nm2]; decide) (by rw [dEq_str]; rfl) e
    · rw [Bool.not_eq_true] at hW hL
      refine ⟨form, ?_, ?_, .form⟩
      · simp -implicitDefEqProofs only [p_fault, PL.bin, PL.un, PL.call, PL.ap0, PL.ap1, PL.ap2, PL.ap3, PL.ap4, PL.ap5, PL.ap6, PL.con, PL.blt, PL.tup, PL.lst, PL.lcP, PL.items, itemsOf, PL.sl, PL.bvP, PL.lvP, PL.kvP, p_vb, asI_i, PL.tgV, PL.tgO, PL.tgC, PL.tgT, PL.andP, PL.orP, PL.notP, PL.iteP, PL.isi, PL.cmp2, PL.appP, PL.thenR, PL.thenB, bind_r, bind_s, wp_ret, bind_ite, kv_of, kb_of, kl_of, kk_of, kf_v, kf_l, kk_val, e_chk, each_nil, each_cons, forN_nil, forN_cons, forB_nil, forB_cons, List.append_nil, List.nil_append, List.cons_append, List.length_cons, List.length_nil, Bool.false_eq_true, if_true, if_false, Bool.not_true, Bool.not_false, Nat.zero_add, Nat.le_refl, Nat.zero_le, isi_none, isi_bool, isi_int, isi_str, isi_list, isi_tuple, isi_dict, dIs, dIsNot, isn_none, isn_int, isn_bool, isn_str, isn_tup, isn_lst, isn_dict, decide_eq_true_eq, Bool.not_eq_true, Nat.reduceLeDiff, Nat.reduceAdd, Nat.reduceSub, reduceIte, ite_self, h_named, t2, p2, hW, hL]; rfl
      · simp -implicitDefEqProofs only [p_law_f_games, PL.bin, PL.un, PL.call, PL.ap0, PL.ap1, PL.ap2, PL.ap3, PL.ap4, PL.ap5, PL.ap6, PL.con, PL.blt, PL.tup, PL.lst, PL.lcP, PL.items, itemsOf, PL.sl, PL.bvP, PL.lvP, PL.kvP, p_vb, asI_i, PL.tgV, PL.tgO, PL.tgC, PL.tgT, PL.andP, PL.orP, PL.notP, PL.iteP, PL.isi, PL.cmp2, PL.appP, PL.thenR, PL.thenB, bind_r, bind_s, wp_ret, bind_ite, kv_of, kb_of, kl_of, kk_of, kf_v, kf_l, kk_val, e_chk, each_nil, each_cons, forN_nil, forN_cons, forB_nil, forB_cons, List.append_nil, List.nil_append, List.cons_append, List.length_cons, List.length_nil, Bool.false_eq_true, if_true, if_false, Bool.not_true, Bool.not_false, Nat.zero_add, Nat.le_refl, Nat.zero_le, isi_none, isi_bool, isi_int, isi_str, isi_list, isi_tuple, isi_dict, dIs, dIsNot, isn_none, isn_int, isn_bool, isn_str, isn_tup, isn_lst, isn_dict, decide_eq_true_eq, Bool.not_eq_true, Nat.reduceLeDiff, Nat.reduceAdd, Nat.reduceSub, reduceIte, ite_self, h_word, t2, p2, hW, hL]; rfl
end
/-! ### questions -/
theorem parts_ok {xs : List DL.D} {k : Nat} {ys : List DL.D} (hv : Fine (.tuple xs)) (h : xs[k]? = some (.tuple ys)) : ∀ x ∈ ys, lenOk x = true := fun x hx => by
  obtain ⟨j, hj, e⟩ := List.getElem_of_mem hx
  have h1 := wt_get h
  have h2 := wt_get (xs := ys) (k := j) (x := x) (by rw [List.getElem?_eq_getElem hj, e])
  have h3 := hv.2
  refine lenOk_w ?_
  simp only [wt] at h1 h3
  omega
theorem quest_is (v : DL.D) (hv : Fine v) : ∃ b, p_is_question v = .ret b ∧ p_law_is_games v = .ret b := by
  cases v with
  | tuple xs =>
    by_cases hl : xs.length = 3
    · match xs, hl, hv with
      | [a, b, c], _, hv =>
        have lb : lenOk b = true := Fine.part hv (k := 1) rfl
        have lc : ∀ xs, b = .tuple xs → ∀ x ∈ xs, lenOk x = true := fun xs e => parts_ok hv (k := 1) (by rw [e] <;> rfl)
        by_cases ha : DL.inR a 1 30 = true
        · obtain ⟨n, rfl, hn1, hn2⟩ := inR_some ha
          have n9 : 0 ≤ n ∧ n ≤ 99 := by omega
          by_cases hb : pairsS b n n = true
          · obtain ⟨mv, rfl, h1, h2⟩ := pairsS_some hb
            have ml : mv.length ≤ 100000 := by have := lenOk_inv lb _ rfl; rwa [List.length_map] at this
            by_cases h3 : (200 : Int) < (mv.length : Nat)
            · refine ⟨false, ?_, ?_⟩
              · simp -implicitDefEqProofs only [p_is_question, PL.bin, PL.un, PL.call, PL.ap0, PL.ap1, PL.ap2, PL.ap3, PL.ap4, PL.ap5, PL.ap6, PL.con, PL.blt, PL.tup, PL.lst, PL.lcP, PL.items, itemsOf, PL.sl, PL.bvP, PL.lvP, PL.kvP, p_vb, asI_i, PL.tgV, PL.tgO, PL.tgC, PL.tgT, PL.andP, PL.orP, PL.notP, PL.iteP, PL.isi, PL.cmp2, PL.appP, PL.thenR, PL.thenB, bind_r, bind_s, wp_ret, bind_ite, kv_of, kb_of, kl_of, kk_of, kf_v, kf_l, kk_val, e_chk, each_nil, each_cons, forN_nil, forN_cons, forB_nil, forB_cons, List.append_nil, List.nil_append, List.cons_append, List.length_cons, List.length_nil, Bool.false_eq_true, if_true, if_false, Bool.not_true, Bool.not_false, Nat.zero_add, Nat.le_refl, Nat.zero_le, isi_none, isi_bool, isi_int, isi_str, isi_list, isi_tuple, isi_dict, dIs, dIsNot, isn_none, isn_int, isn_bool, isn_str, isn_tup, isn_lst, isn_dict, decide_eq_true_eq, Bool.not_eq_true, Nat.reduceLeDiff, Nat.reduceAdd, Nat.reduceSub, reduceIte, ite_self, bLen_tup, dNe_int, i30, i31, h_from, ha, are_pairs_is n9 n9 lb lc, hb, dGt_int, List.length_map, h3, decide_true, decide_false] <;> rfl
              · simp -implicitDefEqProofs only [p_law_is_games, PL.bin, PL.un, PL.call, PL.ap0, PL.ap1, PL.ap2, PL.ap3, PL.ap4, PL.ap5, PL.ap6, PL.con, PL.blt, PL.tup, PL.lst, PL.lcP, PL.items, itemsOf, PL.sl, PL.bvP, PL.lvP, PL.kvP, p_vb, asI_i, PL.tgV, PL.tgO, PL.tgC, PL.tgT, PL.andP, PL.orP, PL.notP, PL.iteP, PL.isi, PL.cmp2, PL.appP, PL.thenR, PL.thenB, bind_r, bind_s, wp_ret, bind_ite, kv_of, kb_of, kl_of, kk_of, kf_v, kf_l, kk_val, e_chk, each_nil, each_cons, forN_nil, forN_cons, forB_nil, forB_cons, List.append_nil, List.nil_append, List.cons_append, List.length_cons, List.length_nil, Bool.false_eq_true, if_true, if_false, Bool.not_true, Bool.not_false, Nat.zero_add, Nat.le_refl, Nat.zero_le, isi_none, isi_bool, isi_int, isi_str, isi_list, isi_tuple, isi_dict, dIs, dIsNot, isn_none, isn_int, isn_bool, isn_str, isn_tup, isn_lst, isn_dict, decide_eq_true_eq, Bool.not_eq_true, Nat.reduceLeDiff, Nat.reduceAdd, Nat.reduceSub, reduceIte, ite_self, bLen_tup, dNe_int, i30, i31, h_number, ha, pair_rows_is n9 n9 lb lc, hb, dGt_int, List.length_map, h3, decide_true] <;> rfl
            · refine ⟨(mv.all fun x => decide (x.2 < x.1)) && DL.inR c 0 (n - 1), ?_, ?_⟩
              · simp -implicitDefEqProofs only [p_is_question, PL.bin, PL.un, PL.call, PL.ap0, PL.ap1, PL.ap2, PL.ap3, PL.ap4, PL.ap5, PL.ap6, PL.con, PL.blt, PL.tup, PL.lst, PL.lcP, PL.items, itemsOf, PL.sl, PL.bvP, PL.lvP, PL.kvP, p_vb, asI_i, PL.tgV, PL.tgO, PL.tgC, PL.tgT, PL.andP, PL.orP, PL.notP, PL.iteP, PL.isi, PL.cmp2, PL.appP, PL.thenR, PL.thenB, bind_r, bind_s, wp_ret, bind_ite, kv_of, kb_of, kl_of, kk_of, kf_v, kf_l, kk_val, e_chk, each_nil, each_cons, forN_nil, forN_cons, forB_nil, forB_cons, List.append_nil, List.nil_append, List.cons_append, List.length_cons, List.length_nil, Bool.false_eq_true, if_true, if_false, Bool.not_true, Bool.not_false, Nat.zero_add, Nat.le_refl, Nat.zero_le, isi_none, isi_bool, isi_int, isi_str, isi_list, isi_tuple, isi_dict, dIs, dIsNot, isn_none, isn_int, isn_bool, isn_str, isn_tup, isn_lst, isn_dict, decide_eq_true_eq, Bool.not_eq_true, Nat.reduceLeDiff, Nat.reduceAdd, Nat.reduceSub, reduceIte, ite_self, bLen_tup, dNe_int, i30, i31, i32, h_from, ha, are_pairs_is n9 n9 lb lc, hb, dGt_int, List.length_map, h3, decide_false, ml, dSub_int]
                rw [each_prss mv fun x => .bool (decide (x.2 < x.1))]
                · cases e : (mv.all fun x => decide (x.2 < x.1)) <;> simp -implicitDefEqProofs only [PL.bin, PL.un, PL.call, PL.ap0, PL.ap1, PL.ap2, PL.ap3, PL.ap4, PL.ap5, PL.ap6, PL.con, PL.blt, PL.tup, PL.lst, PL.lcP, PL.items, itemsOf, PL.sl, PL.bvP, PL.lvP, PL.kvP, p_vb, asI_i, PL.tgV, PL.tgO, PL.tgC, PL.tgT, PL.andP, PL.orP, PL.notP, PL.iteP, PL.isi, PL.cmp2, PL.appP, PL.thenR, PL.thenB, bind_r, bind_s, wp_ret, bind_ite, kv_of, kb_of, kl_of, kk_of, kf_v, kf_l, kk_val, e_chk, each_nil, each_cons, forN_nil, forN_cons, forB_nil, forB_cons, List.append_nil, List.nil_append, List.cons_append, List.length_cons, List.length_nil, Bool.false_eq_true, if_true, if_false, Bool.not_true, Bool.not_false, Nat.zero_add, Nat.le_refl, Nat.zero_le, isi_none, isi_bool, isi_int, isi_str, isi_list, isi_tuple, isi_dict, dIs, dIsNot, isn_none, isn_int, isn_bool, isn_str, isn_tup, isn_lst, isn_dict, decide_eq_true_eq, Bool.not_eq_true, Nat.reduceLeDiff, Nat.reduceAdd, Nat.reduceSub, reduceIte, ite_self, bAll_is, e, Bool.true_and, Bool.false_and] <;> rfl
                · intro x _; simp -implicitDefEqProofs only [PL.bin, PL.un, PL.call, PL.ap0, PL.ap1, PL.ap2, PL.ap3, PL.ap4, PL.ap5, PL.ap6, PL.con, PL.blt, PL.tup, PL.lst, PL.lcP, PL.items, itemsOf, PL.sl, PL.bvP, PL.lvP, PL.kvP, p_vb, asI_i, PL.tgV, PL.tgO, PL.tgC, PL.tgT, PL.andP, PL.orP, PL.notP, PL.iteP, PL.isi, PL.cmp2, PL.appP, PL.thenR, PL.thenB, bind_r, bind_s, wp_ret, bind_ite, kv_of, kb_of, kl_of, kk_of, kf_v, kf_l, kk_val, e_chk, each_nil, each_cons, forN_nil, forN_cons, forB_nil, forB_cons, List.append_nil, List.nil_append, List.cons_append, List.length_cons, List.length_nil, Bool.false_eq_true, if_true, if_false, Bool.not_true, Bool.not_false, Nat.zero_add, Nat.le_refl, Nat.zero_le, isi_none, isi_bool, isi_int, isi_str, isi_list, isi_tuple, isi_dict, dIs, dIsNot, isn_none, isn_int, isn_bool, isn_str, isn_tup, isn_lst, isn_dict, decide_eq_true_eq, Bool.not_eq_true, Nat.reduceLeDiff, Nat.reduceAdd, Nat.reduceSub, reduceIte, ite_self, dGt_int]
              · simp -implicitDefEqProofs only [p_law_is_games, PL.bin, PL.un, PL.call, PL.ap0, PL.ap1, PL.ap2, PL.ap3, PL.ap4, PL.ap5, PL.ap6, PL.con, PL.blt, PL.tup, PL.lst, PL.lcP, PL.items, itemsOf, PL.sl, PL.bvP, PL.lvP, PL.kvP, p_vb, asI_i, PL.tgV, PL.tgO, PL.tgC, PL.tgT, PL.andP, PL.orP, PL.notP, PL.iteP, PL.isi, PL.cmp2, PL.appP, PL.thenR, PL.thenB, bind_r, bind_s, wp_ret, bind_ite, kv_of, kb_of, kl_of, kk_of, kf_v, kf_l, kk_val, e_chk, each_nil, each_cons, forN_nil, forN_cons, forB_nil, forB_cons, List.append_nil, List.nil_append, List.cons_append, List.length_cons, List.length_nil, Bool.false_eq_true, if_true, if_false, Bool.not_true, Bool.not_false, Nat.zero_add, Nat.le_refl, Nat.zero_le, isi_none, isi_bool, isi_int, isi_str, isi_list, isi_tuple, isi_dict, dIs, dIsNot, isn_none, isn_int, isn_bool, isn_str, isn_tup, isn_lst, isn_dict, decide_eq_true_eq, Bool.not_eq_true, Nat.reduceLeDiff, Nat.reduceAdd, Nat.reduceSub, reduceIte, ite_self, bLen_tup, dNe_int, i30, i31, i32, h_number, ha, pair_rows_is n9 n9 lb lc, hb, dGt_int, List.length_map, h3, decide_false, ml, dSub_int]
                rw [each_dat mv (fun x => decide (x.1 ≤ x.2)) movD]
                · have e2 : (mv.all fun x => !decide (x.1 ≤ x.2)) = mv.all fun x => decide (x.2 < x.1) := by
                    refine congrArg mv.all (funext fun x => ?_)
                    rw [← decide_not]; exact decide_eq_decide.mpr (by omega)
                  cases e : (mv.all fun x => decide (x.2 < x.1)) <;> simp -implicitDefEqProofs only [PL.bin, PL.un, PL.call, PL.ap0, PL.ap1, PL.ap2, PL.ap3, PL.ap4, PL.ap5, PL.ap6, PL.con, PL.blt, PL.tup, PL.lst, PL.lcP, PL.items, itemsOf, PL.sl, PL.bvP, PL.lvP, PL.kvP, p_vb, asI_i, PL.tgV, PL.tgO, PL.tgC, PL.tgT, PL.andP, PL.orP, PL.notP, PL.iteP, PL.isi, PL.cmp2, PL.appP, PL.thenR, PL.thenB, bind_r, bind_s, wp_ret, bind_ite, kv_of, kb_of, kl_of, kk_of, kf_v, kf_l, kk_val, e_chk, each_nil, each_cons, forN_nil, forN_cons, forB_nil, forB_cons, List.append_nil, List.nil_append, List.cons_append, List.length_cons, List.length_nil, Bool.false_eq_true, if_true, if_false, Bool.not_true, Bool.not_false, Nat.zero_add, Nat.le_refl, Nat.zero_le, isi_none, isi_bool, isi_int, isi_str, isi_list, isi_tuple, isi_dict, dIs, dIsNot, isn_none, isn_int, isn_bool, isn_str, isn_tup, isn_lst, isn_dict, decide_eq_true_eq, Bool.not_eq_true, Nat.reduceLeDiff, Nat.reduceAdd, Nat.reduceSub, reduceIte, ite_self, bLen_list, dEq_int, List.length_map, zero_len, e2, e, Bool.true_and, Bool.false_and] <;> rfl
                · intro x _; simp -implicitDefEqProofs only [PL.bin, PL.un, PL.call, PL.ap0, PL.ap1, PL.ap2, PL.ap3, PL.ap4, PL.ap5, PL.ap6, PL.con, PL.blt, PL.tup, PL.lst, PL.lcP, PL.items, itemsOf, PL.sl, PL.bvP, PL.lvP, PL.kvP, p_vb, asI_i, PL.tgV, PL.tgO, PL.tgC, PL.tgT, PL.andP, PL.orP, PL.notP, PL.iteP, PL.isi, PL.cmp2, PL.appP, PL.thenR, PL.thenB, bind_r, bind_s, wp_ret, bind_ite, kv_of, kb_of, kl_of, kk_of, kf_v, kf_l, kk_val, e_chk, each_nil, each_cons, forN_nil, forN_cons, forB_nil, forB_cons, List.append_nil, List.nil_append, List.cons_append, List.length_cons, List.length_nil, Bool.false_eq_true, if_true, if_false, Bool.not_true, Bool.not_false, Nat.zero_add, Nat.le_refl, Nat.zero_le, isi_none, isi_bool, isi_int, isi_str, isi_list, isi_tuple, isi_dict, dIs, dIsNot, isn_none, isn_int, isn_bool, isn_str, isn_tup, isn_lst, isn_dict, decide_eq_true_eq, Bool.not_eq_true, Nat.reduceLeDiff, Nat.reduceAdd, Nat.reduceSub, reduceIte, ite_self, m0, m1, dLe_int]
                · intro x _ _; rfl
          · rw [Bool.not_eq_true] at hb
            refine ⟨false, ?_, ?_⟩
            · simp -implicitDefEqProofs only [p_is_question, PL.bin, PL.un, PL.call, PL.ap0, PL.ap1, PL.ap2, PL.ap3, PL.ap4, PL.ap5, PL.ap6, PL.con, PL.blt, PL.tup, PL.lst, PL.lcP, PL.items, itemsOf, PL.sl, PL.bvP, PL.lvP, PL.kvP, p_vb, asI_i, PL.tgV, PL.tgO, PL.tgC, PL.tgT, PL.andP, PL.orP, PL.notP, PL.iteP, PL.isi, PL.cmp2, PL.appP, PL.thenR, PL.thenB, bind_r, bind_s, wp_ret, bind_ite, kv_of, kb_of, kl_of, kk_of, kf_v, kf_l, kk_val, e_chk, each_nil, each_cons, forN_nil, forN_cons, forB_nil, forB_cons, List.append_nil, List.nil_append, List.cons_append, List.length_cons, List.length_nil, Bool.false_eq_true, if_true, if_false, Bool.not_true, Bool.not_false, Nat.zero_add, Nat.le_refl, Nat.zero_le, isi_none, isi_bool, isi_int, isi_str, isi_list, isi_tuple, isi_dict, dIs, dIsNot, isn_none, isn_int, isn_bool, isn_str, isn_tup, isn_lst, isn_dict, decide_eq_true_eq, Bool.not_eq_true, Nat.reduceLeDiff, Nat.reduceAdd, Nat.reduceSub, reduceIte, ite_self, bLen_tup, dNe_int, i30, i31, h_from, ha, are_pairs_is n9 n9 lb lc, hb] <;> rfl
            · simp -implicitDefEqProofs only [p_law_is_games, PL.bin, PL.un, PL.call, PL.ap0, PL.ap1, PL.ap2, PL.ap3, PL.ap4, PL.ap5, PL.ap6, PL.con, PL.blt, PL.tup, PL.lst, PL.lcP, PL.items, itemsOf, PL.sl, PL.bvP, PL.lvP, PL.kvP, p_vb, asI_i, PL.tgV, PL.tgO, PL.tgC, PL.tgT, PL.andP, PL.orP, PL.notP, PL.iteP, PL.isi, PL.cmp2, PL.appP, PL.thenR, PL.thenB, bind_r, bind_s, wp_ret, bind_ite, kv_of, kb_of, kl_of, kk_of, kf_v, kf_l, kk_val, e_chk, each_nil, each_cons, forN_nil, forN_cons, forB_nil, forB_cons, List.append_nil, List.nil_append, List.cons_append, List.length_cons, List.length_nil, Bool.false_eq_true, if_true, if_false, Bool.not_true, Bool.not_false, Nat.zero_add, Nat.le_refl, Nat.zero_le, isi_none, isi_bool, isi_int, isi_str, isi_list, isi_tuple, isi_dict, dIs, dIsNot, isn_none, isn_int, isn_bool, isn_str, isn_tup, isn_lst, isn_dict, decide_eq_true_eq, Bool.not_eq_true, Nat.reduceLeDiff, Nat.reduceAdd, Nat.reduceSub, reduceIte, ite_self, bLen_tup, dNe_int, i30, i31, h_number, ha, pair_rows_is n9 n9 lb lc, hb] <;> rfl
        · rw [Bool.not_eq_true] at ha
          refine ⟨false, ?_, ?_⟩
          · simp -implicitDefEqProofs only [p_is_question, PL.bin, PL.un, PL.call, PL.ap0, PL.ap1, PL.ap2, PL.ap3, PL.ap4, PL.ap5, PL.ap6, PL.con, PL.blt, PL.tup, PL.lst, PL.lcP, PL.items, itemsOf, PL.sl, PL.bvP, PL.lvP, PL.kvP, p_vb, asI_i, PL.tgV, PL.tgO, PL.tgC, PL.tgT, PL.andP, PL.orP, PL.notP, PL.iteP, PL.isi, PL.cmp2, PL.appP, PL.thenR, PL.thenB, bind_r, bind_s, wp_ret, bind_ite, kv_of, kb_of, kl_of, kk_of, kf_v, kf_l, kk_val, e_chk, each_nil, each_cons, forN_nil, forN_cons, forB_nil, forB_cons, List.append_nil, List.nil_append, List.cons_append, List.length_cons, List.length_nil, Bool.false_eq_true, if_true, if_false, Bool.not_true, Bool.not_false, Nat.zero_add, Nat.le_refl, Nat.zero_le, isi_none, isi_bool, isi_int, isi_str, isi_list, isi_tuple, isi_dict, dIs, dIsNot, isn_none, isn_int, isn_bool, isn_str, isn_tup, isn_lst, isn_dict, decide_eq_true_eq, Bool.not_eq_true, Nat.reduceLeDiff, Nat.reduceAdd, Nat.reduceSub, reduceIte, ite_self, bLen_tup, dNe_int, i30, h_from, ha] <;> rfl
          · simp -implicitDefEqProofs only [p_law_is_games, PL.bin, PL.un, PL.call, PL.ap0, PL.ap1, PL.ap2, PL.ap3, PL.ap4, PL.ap5, PL.ap6, PL.con, PL.blt, PL.tup, PL.lst, PL.lcP, PL.items, itemsOf, PL.sl, PL.bvP, PL.lvP, PL.kvP, p_vb, asI_i, PL.tgV, PL.tgO, PL.tgC, PL.tgT, PL.andP, PL.orP, PL.notP, PL.iteP, PL.isi, PL.cmp2, PL.appP, PL.thenR, PL.thenB, bind_r, bind_s, wp_ret, bind_ite, kv_of, kb_of, kl_of, kk_of, kf_v, kf_l, kk_val, e_chk, each_nil, each_cons, forN_nil, forN_cons, forB_nil, forB_cons, List.append_nil, List.nil_append, List.cons_append, List.length_cons, List.length_nil, Bool.false_eq_true, if_true, if_false, Bool.not_true, Bool.not_false, Nat.zero_add, Nat.le_refl, Nat.zero_le, isi_none, isi_bool, isi_int, isi_str, isi_list, isi_tuple, isi_dict, dIs, dIsNot, isn_none, isn_int, isn_bool, isn_str, isn_tup, isn_lst, isn_dict, decide_eq_true_eq, Bool.not_eq_true, Nat.reduceLeDiff, Nat.reduceAdd, Nat.reduceSub, reduceIte, ite_self, bLen_tup, dNe_int, i30, h_number, ha] <;> rfl
    · have h1 : ¬ ((xs.length : Nat) : Int) = 3 := by omega
      refine ⟨false, ?_, ?_⟩
      · simp -implicitDefEqProofs only [p_is_question, PL.bin, PL.un, PL.call, PL.ap0, PL.ap1, PL.ap2, PL.ap3, PL.ap4, PL.ap5, PL.ap6, PL.con, PL.blt, PL.tup, PL.lst, PL.lcP, PL.items, itemsOf, PL.sl, PL.bvP, PL.lvP, PL.kvP, p_vb, asI_i, PL.tgV, PL.tgO, PL.tgC, PL.tgT, PL.andP, PL.orP, PL.notP, PL.iteP, PL.isi, PL.cmp2, PL.appP, PL.thenR, PL.thenB, bind_r, bind_s, wp_ret, bind_ite, kv_of, kb_of, kl_of, kk_of, kf_v, kf_l, kk_val, e_chk, each_nil, each_cons, forN_nil, forN_cons, forB_nil, forB_cons, List.append_nil, List.nil_append, List.cons_append, List.length_cons, List.length_nil, Bool.false_eq_true, if_true, if_false, Bool.not_true, Bool.not_false, Nat.zero_add, Nat.le_refl, Nat.zero_le, isi_none, isi_bool, isi_int, isi_str, isi_list, isi_tuple, isi_dict, dIs, dIsNot, isn_none, isn_int, isn_bool, isn_str, isn_tup, isn_lst, isn_dict, decide_eq_true_eq, Bool.not_eq_true, Nat.reduceLeDiff, Nat.reduceAdd, Nat.reduceSub, reduceIte, ite_self, bLen_tup, dNe_int, h1, decide_false]
      · simp -implicitDefEqProofs only [p_law_is_games, PL.bin, PL.un, PL.call, PL.ap0, PL.ap1, PL.ap2, PL.ap3, PL.ap4, PL.ap5, PL.ap6, PL.con, PL.blt, PL.tup, PL.lst, PL.lcP, PL.items, itemsOf, PL.sl, PL.bvP, PL.lvP, PL.kvP, p_vb, asI_i, PL.tgV, PL.tgO, PL.tgC, PL.tgT, PL.andP, PL.orP, PL.notP, PL.iteP, PL.isi, PL.cmp2, PL.appP, PL.thenR, PL.thenB, bind_r, bind_s, wp_ret, bind_ite, kv_of, kb_of, kl_of, kk_of, kf_v, kf_l, kk_val, e_chk, each_nil, each_cons, forN_nil, forN_cons, forB_nil, forB_cons, List.append_nil, List.nil_append, List.cons_append, List.length_cons, List.length_nil, Bool.false_eq_true, if_true, if_false, Bool.not_true, Bool.not_false, Nat.zero_add, Nat.le_refl, Nat.zero_le, isi_none, isi_bool, isi_int, isi_str, isi_list, isi_tuple, isi_dict, dIs, dIsNot, isn_none, isn_int, isn_bool, isn_str, isn_tup, isn_lst, isn_dict, decide_eq_true_eq, Bool.not_eq_true, Nat.reduceLeDiff, Nat.reduceAdd, Nat.reduceSub, reduceIte, ite_self, bLen_tup, dNe_int, h1, decide_false]
  | _ => exact ⟨false, by simp -implicitDefEqProofs only [p_is_question, PL.bin, PL.un, PL.call, PL.ap0, PL.ap1, PL.ap2, PL.ap3, PL.ap4, PL.ap5, PL.ap6, PL.con, PL.blt, PL.tup, PL.lst, PL.lcP, PL.items, itemsOf, PL.sl, PL.bvP, PL.lvP, PL.kvP, p_vb, asI_i, PL.tgV, PL.tgO, PL.tgC, PL.tgT, PL.andP, PL.orP, PL.notP, PL.iteP, PL.isi, PL.cmp2, PL.appP, PL.thenR, PL.thenB, bind_r, bind_s, wp_ret, bind_ite, kv_of, kb_of, kl_of, kk_of, kf_v, kf_l, kk_val, e_chk, each_nil, each_cons, forN_nil, forN_cons, forB_nil, forB_cons, List.append_nil, List.nil_append, List.cons_append, List.length_cons, List.length_nil, Bool.false_eq_true, if_true, if_false, Bool.not_true, Bool.not_false, Nat.zero_add, Nat.le_refl, Nat.zero_le, isi_none, isi_bool, isi_int, isi_str, isi_list, isi_tuple, isi_dict, dIs, dIsNot, isn_none, isn_int, isn_bool, isn_str, isn_tup, isn_lst, isn_dict, decide_eq_true_eq, Bool.not_eq_true, Nat.reduceLeDiff, Nat.reduceAdd, Nat.reduceSub, reduceIte, ite_self], by simp -implicitDefEqProofs only [p_law_is_games, PL.bin, PL.un, PL.call, PL.ap0, PL.ap1, PL.ap2, PL.ap3, PL.ap4, PL.ap5, PL.ap6, PL.con, PL.blt, PL.tup, PL.lst, PL.lcP, PL.items, itemsOf, PL.sl, PL.bvP, PL.lvP, PL.kvP, p_vb, asI_i, PL.tgV, PL.tgO, PL.tgC, PL.tgT, PL.andP, PL.orP, PL.notP, PL.iteP, PL.isi, PL.cmp2, PL.appP, PL.thenR, PL.thenB, bind_r, bind_s, wp_ret, bind_ite, kv_of, kb_of, kl_of, kk_of, kf_v, kf_l, kk_val, e_chk, each_nil, each_cons, forN_nil, forN_cons, forB_nil, forB_cons, List.append_nil, List.nil_append, List.cons_append, List.length_cons, List.length_nil, Bool.false_eq_true, if_true, if_false, Bool.not_true, Bool.not_false, Nat.zero_add, Nat.le_refl, Nat.zero_le, isi_none, isi_bool, isi_int, isi_str, isi_list, isi_tuple, isi_dict, dIs, dIsNot, isn_none, isn_int, isn_bool, isn_str, isn_tup, isn_lst, isn_dict, decide_eq_true_eq, Bool.not_eq_true, Nat.reduceLeDiff, Nat.reduceAdd, Nat.reduceSub, reduceIte, ite_self]⟩
/-! ### drawn questions -/
theorem pick2 {a b : Int} {i : Int} (h0 : 0 ≤ i) (h1 : i < 2) : ∃ k, (k = a ∨ k = b) ∧ dIx (.tuple [.int a, .int b]) (.int i) = .ret (.v (.int k)) := by
  obtain ⟨k, hk, e⟩ := pick_int [a, b] h0 h1
  simp only [List.mem_cons, List.not_mem_nil, or_false] at hk
  exact ⟨k, hk, e⟩
theorem q_draw : p_law_q_games.wp fun q => ∃ n mv p, Gm n mv p ∧ q = gm n mv p := by
  simp -implicitDefEqProofs only [p_law_q_games, PL.bin, PL.un, PL.call, PL.ap0, PL.ap1, PL.ap2, PL.ap3, PL.ap4, PL.ap5, PL.ap6, PL.con, PL.blt, PL.tup, PL.lst, PL.lcP, PL.items, itemsOf, PL.sl, PL.bvP, PL.lvP, PL.kvP, p_vb, asI_i, PL.tgV, PL.tgO, PL.tgC, PL.tgT, PL.andP, PL.orP, PL.notP, PL.iteP, PL.isi, PL.cmp2, PL.appP, PL.thenR, PL.thenB, bind_r, bind_s, wp_ret, bind_ite, kv_of, kb_of, kl_of, kk_of, kf_v, kf_l, kk_val, e_chk, each_nil, each_cons, forN_nil, forN_cons, forB_nil, forB_cons, List.append_nil, List.nil_append, List.cons_append, List.length_cons, List.length_nil, Bool.false_eq_true, if_true, if_false, Bool.not_true, Bool.not_false, Nat.zero_add, Nat.le_refl, Nat.zero_le, isi_none, isi_bool, isi_int, isi_str, isi_list, isi_tuple, isi_dict, dIs, dIsNot, isn_none, isn_int, isn_bool, isn_str, isn_tup, isn_lst, isn_dict, decide_eq_true_eq, Bool.not_eq_true, Nat.reduceLeDiff, Nat.reduceAdd, Nat.reduceSub, reduceIte, ite_self]
  repeat rw [T.wp_bind]
  refine draw_wp (by decide) (by decide) fun i i0 i1 => ?_
  obtain ⟨k, hk, e⟩ := pick2 (a := 6) (b := 14) i0 i1
  simp -implicitDefEqProofs only [PL.bin, PL.un, PL.call, PL.ap0, PL.ap1, PL.ap2, PL.ap3, PL.ap4, PL.ap5, PL.ap6, PL.con, PL.blt, PL.tup, PL.lst, PL.lcP, PL.items, itemsOf, PL.sl, PL.bvP, PL.lvP, PL.kvP, p_vb, asI_i, PL.tgV, PL.tgO, PL.tgC, PL.tgT, PL.andP, PL.orP, PL.notP, PL.iteP, PL.isi, PL.cmp2, PL.appP, PL.thenR, PL.thenB, bind_r, bind_s, wp_ret, bind_ite, kv_of, kb_of, kl_of, kk_of, kf_v, kf_l, kk_val, e_chk, each_nil, each_cons, forN_nil, forN_cons, forB_nil, forB_cons, List.append_nil, List.nil_append, List.cons_append, List.length_cons, List.length_nil, Bool.false_eq_true, if_true, if_false, Bool.not_true, Bool.not_false, Nat.zero_add, Nat.le_refl, Nat.zero_le, isi_none, isi_bool, isi_int, isi_str, isi_list, isi_tuple, isi_dict, dIs, dIsNot, isn_none, isn_int, isn_bool, isn_str, isn_tup, isn_lst, isn_dict, decide_eq_true_eq, Bool.not_eq_true, Nat.reduceLeDiff, Nat.reduceAdd, Nat.reduceSub, reduceIte, ite_self, e]
  repeat rw [T.wp_bind]
  refine draw_wp (by omega) (by omega) fun n' n0 n1 => ?_
  obtain ⟨n, en⟩ : ∃ n, n = 1 + n' := ⟨_, rfl⟩
  simp -implicitDefEqProofs only [PL.bin, PL.un, PL.call, PL.ap0, PL.ap1, PL.ap2, PL.ap3, PL.ap4, PL.ap5, PL.ap6, PL.con, PL.blt, PL.tup, PL.lst, PL.lcP, PL.items, itemsOf, PL.sl, PL.bvP, PL.lvP, PL.kvP, p_vb, asI_i, PL.tgV, PL.tgO, PL.tgC, PL.tgT, PL.andP, PL.orP, PL.notP, PL.iteP, PL.isi, PL.cmp2, PL.appP, PL.thenR, PL.thenB, bind_r, bind_s, wp_ret, bind_ite, kv_of, kb_of, kl_of, kk_of, kf_v, kf_l, kk_val, e_chk, each_nil, each_cons, forN_nil, forN_cons, forB_nil, forB_cons, List.append_nil, List.nil_append, List.cons_append, List.length_cons, List.length_nil, Bool.false_eq_true, if_true, if_false, Bool.not_true, Bool.not_false, Nat.zero_add, Nat.le_refl, Nat.zero_le, isi_none, isi_bool, isi_int, isi_str, isi_list, isi_tuple, isi_dict, dIs, dIsNot, isn_none, isn_int, isn_bool, isn_str, isn_tup, isn_lst, isn_dict, decide_eq_true_eq, Bool.not_eq_true, Nat.reduceLeDiff, Nat.reduceAdd, Nat.reduceSub, reduceIte, ite_self, dAdd_int]
  rw [← en]
  have hn : 1 ≤ n ∧ n ≤ 14 := by omega
  repeat rw [T.wp_bind]
  refine draw_wp (by decide) (by decide) fun j j0 j1 => ?_
  obtain ⟨k2, hk2, e2⟩ := pick2 (a := 6) (b := 25) j0 j1
  simp -implicitDefEqProofs only [PL.bin, PL.un, PL.call, PL.ap0, PL.ap1, PL.ap2, PL.ap3, PL.ap4, PL.ap5, PL.ap6, PL.con, PL.blt, PL.tup, PL.lst, PL.lcP, PL.items, itemsOf, PL.sl, PL.bvP, PL.lvP, PL.kvP, p_vb, asI_i, PL.tgV, PL.tgO, PL.tgC, PL.tgT, PL.andP, PL.orP, PL.notP, PL.iteP, PL.isi, PL.cmp2, PL.appP, PL.thenR, PL.thenB, bind_r, bind_s, wp_ret, bind_ite, kv_of, kb_of, kl_of, kk_of, kf_v, kf_l, kk_val, e_chk, each_nil, each_cons, forN_nil, forN_cons, forB_nil, forB_cons, List.append_nil, List.nil_append, List.cons_append, List.length_cons, List.length_nil, Bool.false_eq_true, if_true, if_false, Bool.not_true, Bool.not_false, Nat.zero_add, Nat.le_refl, Nat.zero_le, isi_none, isi_bool, isi_int, isi_str, isi_list, isi_tuple, isi_dict, dIs, dIsNot, isn_none, isn_int, isn_bool, isn_str, isn_tup, isn_lst, isn_dict, decide_eq_true_eq, Bool.not_eq_true, Nat.reduceLeDiff, Nat.reduceAdd, Nat.reduceSub, reduceIte, ite_self, e2]
  repeat rw [T.wp_bind]
  refine draw_wp (by omega) (by omega) fun c c0 c1 => ?_
  have r1 : rng1 [.int c] = .ret (iL (upto c.toNat)) := rng1_up c0 (by omega)
  simp -implicitDefEqProofs only [PL.bin, PL.un, PL.call, PL.ap0, PL.ap1, PL.ap2, PL.ap3, PL.ap4, PL.ap5, PL.ap6, PL.con, PL.blt, PL.tup, PL.lst, PL.lcP, PL.items, itemsOf, PL.sl, PL.bvP, PL.lvP, PL.kvP, p_vb, asI_i, PL.tgV, PL.tgO, PL.tgC, PL.tgT, PL.andP, PL.orP, PL.notP, PL.iteP, PL.isi, PL.cmp2, PL.appP, PL.thenR, PL.thenB, bind_r, bind_s, wp_ret, bind_ite, kv_of, kb_of, kl_of, kk_of, kf_v, kf_l, kk_val, e_chk, each_nil, each_cons, forN_nil, forN_cons, forB_nil, forB_cons, List.append_nil, List.nil_append, List.cons_append, List.length_cons, List.length_nil, Bool.false_eq_true, if_true, if_false, Bool.not_true, Bool.not_false, Nat.zero_add, Nat.le_refl, Nat.zero_le, isi_none, isi_bool, isi_int, isi_str, isi_list, isi_tuple, isi_dict, dIs, dIsNot, isn_none, isn_int, isn_bool, isn_str, isn_tup, isn_lst, isn_dict, decide_eq_true_eq, Bool.not_eq_true, Nat.reduceLeDiff, Nat.reduceAdd, Nat.reduceSub, reduceIte, ite_self, r1]
  repeat rw [T.wp_bind]
  refine T.wp_mono (forN_wpN (fun k (s : List DL.D) => ∃ l : Mv, s = l.map movD ∧ l.length ≤ k ∧ ∀ x ∈ l, 0 ≤ x.2 ∧ x.2 < x.1 ∧ x.1 < n) 25 (iL (upto c.toNat)) 0 [] (by rw [iL, List.length_map, upto_len]; omega) ⟨[], rfl, Nat.le_refl _, fun _ z => nomatch z⟩ fun k _ k' s hn' hs => ?_) fun s hs => ?_
  · obtain ⟨l, rfl, h1, h2⟩ := hs
    simp -implicitDefEqProofs only [PL.bin, PL.un, PL.call, PL.ap0, PL.ap1, PL.ap2, PL.ap3, PL.ap4, PL.ap5, PL.ap6, PL.con, PL.blt, PL.tup, PL.lst, PL.lcP, PL.items, itemsOf, PL.sl, PL.bvP, PL.lvP, PL.kvP, p_vb, asI_i, PL.tgV, PL.tgO, PL.tgC, PL.tgT, PL.andP, PL.orP, PL.notP, PL.iteP, PL.isi, PL.cmp2, PL.appP, PL.thenR, PL.thenB, bind_r, bind_s, wp_ret, bind_ite, kv_of, kb_of, kl_of, kk_of, kf_v, kf_l, kk_val, e_chk, each_nil, each_cons, forN_nil, forN_cons, forB_nil, forB_cons, List.append_nil, List.nil_append, List.cons_append, List.length_cons, List.length_nil, Bool.false_eq_true, if_true, if_false, Bool.not_true, Bool.not_false, Nat.zero_add, Nat.le_refl, Nat.zero_le, isi_none, isi_bool, isi_int, isi_str, isi_list, isi_tuple, isi_dict, dIs, dIsNot, isn_none, isn_int, isn_bool, isn_str, isn_tup, isn_lst, isn_dict, decide_eq_true_eq, Bool.not_eq_true, Nat.reduceLeDiff, Nat.reduceAdd, Nat.reduceSub, reduceIte, ite_self]
    repeat rw [T.wp_bind]
    refine draw_wp (by omega) (by omega) fun a a0 a1 => ?_
    by_cases ha : 0 < a
    · simp -implicitDefEqProofs only [PL.bin, PL.un, PL.call, PL.ap0, PL.ap1, PL.ap2, PL.ap3, PL.ap4, PL.ap5, PL.ap6, PL.con, PL.blt, PL.tup, PL.lst, PL.lcP, PL.items, itemsOf, PL.sl, PL.bvP, PL.lvP, PL.kvP, p_vb, asI_i, PL.tgV, PL.tgO, PL.tgC, PL.tgT, PL.andP, PL.orP, PL.notP, PL.iteP, PL.isi, PL.cmp2, PL.appP, PL.thenR, PL.thenB, bind_r, bind_s, wp_ret, bind_ite, kv_of, kb_of, kl_of, kk_of, kf_v, kf_l, kk_val, e_chk, each_nil, each_cons, forN_nil, forN_cons, forB_nil, forB_cons, List.append_nil, List.nil_append, List.cons_append, List.length_cons, List.length_nil, Bool.false_eq_true, if_true, if_false, Bool.not_true, Bool.not_false, Nat.zero_add, Nat.le_refl, Nat.zero_le, isi_none, isi_bool, isi_int, isi_str, isi_list, isi_tuple, isi_dict, dIs, dIsNot, isn_none, isn_int, isn_bool, isn_str, isn_tup, isn_lst, isn_dict, decide_eq_true_eq, Bool.not_eq_true, Nat.reduceLeDiff, Nat.reduceAdd, Nat.reduceSub, reduceIte, ite_self, dGt_int, ha, decide_true]
      repeat rw [T.wp_bind]
      refine draw_wp (by omega) (by omega) fun b b0 b1 => ?_
      have hlen : (l.map movD).length + 1 ≤ 100000 := by rw [List.length_map]; omega
      have hlen2 : l.length ≤ 99999 := by omega
      simp -implicitDefEqProofs only [PL.bin, PL.un, PL.call, PL.ap0, PL.ap1, PL.ap2, PL.ap3, PL.ap4, PL.ap5, PL.ap6, PL.con, PL.blt, PL.tup, PL.lst, PL.lcP, PL.items, itemsOf, PL.sl, PL.bvP, PL.lvP, PL.kvP, p_vb, asI_i, PL.tgV, PL.tgO, PL.tgC, PL.tgT, PL.andP, PL.orP, PL.notP, PL.iteP, PL.isi, PL.cmp2, PL.appP, PL.thenR, PL.thenB, bind_r, bind_s, wp_ret, bind_ite, kv_of, kb_of, kl_of, kk_of, kf_v, kf_l, kk_val, e_chk, each_nil, each_cons, forN_nil, forN_cons, forB_nil, forB_cons, List.append_nil, List.nil_append, List.cons_append, List.length_cons, List.length_nil, Bool.false_eq_true, if_true, if_false, Bool.not_true, Bool.not_false, Nat.zero_add, Nat.le_refl, Nat.zero_le, isi_none, isi_bool, isi_int, isi_str, isi_list, isi_tuple, isi_dict, dIs, dIsNot, isn_none, isn_int, isn_bool, isn_str, isn_tup, isn_lst, isn_dict, decide_eq_true_eq, Bool.not_eq_true, Nat.reduceLeDiff, Nat.reduceAdd, Nat.reduceSub, reduceIte, ite_self, List.length_map, hlen2]
      refine ⟨l ++ [(a, b)], by rw [List.map_append]; rfl, by rw [List.length_append]; simp only [List.length_cons, List.length_nil]; omega, fun x hx => ?_⟩
      rcases List.mem_append.mp hx with hx | hx
      · exact h2 x hx
      · rw [List.mem_singleton.mp hx]; exact ⟨b0, b1, a1⟩
    · simp -implicitDefEqProofs only [PL.bin, PL.un, PL.call, PL.ap0, PL.ap1, PL.ap2, PL.ap3, PL.ap4, PL.ap5, PL.ap6, PL.con, PL.blt, PL.tup, PL.lst, PL.lcP, PL.items, itemsOf, PL.sl, PL.bvP, PL.lvP, PL.kvP, p_vb, asI_i, PL.tgV, PL.tgO, PL.tgC, PL.tgT, PL.andP, PL.orP, PL.notP, PL.iteP, PL.isi, PL.cmp2, PL.appP, PL.thenR, PL.thenB, bind_r, bind_s, wp_ret, bind_ite, kv_of, kb_of, kl_of, kk_of, kf_v, kf_l, kk_val, e_chk, each_nil, each_cons, forN_nil, forN_cons, forB_nil, forB_cons, List.append_nil, List.nil_append, List.cons_append, List.length_cons, List.length_nil, Bool.false_eq_true, if_true, if_false, Bool.not_true, Bool.not_false, Nat.zero_add, Nat.le_refl, Nat.zero_le, isi_none, isi_bool, isi_int, isi_str, isi_list, isi_tuple, isi_dict, dIs, dIsNot, isn_none, isn_int, isn_bool, isn_str, isn_tup, isn_lst, isn_dict, decide_eq_true_eq, Bool.not_eq_true, Nat.reduceLeDiff, Nat.reduceAdd, Nat.reduceSub, reduceIte, ite_self, dGt_int, ha, decide_false]
      exact ⟨l, rfl, by omega, h2⟩
  · obtain ⟨l, rfl, h1, h2⟩ := hs
    have h1 : l.length ≤ 25 := by rw [iL, List.length_map, upto_len] at h1; omega
    obtain ⟨l', e3, e4, _, e5, _⟩ := bSS_prs (l := l) (by omega) fun p hp => by have := h2 p hp; omega
    simp -implicitDefEqProofs only [PL.bin, PL.un, PL.call, PL.ap0, PL.ap1, PL.ap2, PL.ap3, PL.ap4, PL.ap5, PL.ap6, PL.con, PL.blt, PL.tup, PL.lst, PL.lcP, PL.items, itemsOf, PL.sl, PL.bvP, PL.lvP, PL.kvP, p_vb, asI_i, PL.tgV, PL.tgO, PL.tgC, PL.tgT, PL.andP, PL.orP, PL.notP, PL.iteP, PL.isi, PL.cmp2, PL.appP, PL.thenR, PL.thenB, bind_r, bind_s, wp_ret, bind_ite, kv_of, kb_of, kl_of, kk_of, kf_v, kf_l, kk_val, e_chk, each_nil, each_cons, forN_nil, forN_cons, forB_nil, forB_cons, List.append_nil, List.nil_append, List.cons_append, List.length_cons, List.length_nil, Bool.false_eq_true, if_true, if_false, Bool.not_true, Bool.not_false, Nat.zero_add, Nat.le_refl, Nat.zero_le, isi_none, isi_bool, isi_int, isi_str, isi_list, isi_tuple, isi_dict, dIs, dIsNot, isn_none, isn_int, isn_bool, isn_str, isn_tup, isn_lst, isn_dict, decide_eq_true_eq, Bool.not_eq_true, Nat.reduceLeDiff, Nat.reduceAdd, Nat.reduceSub, reduceIte, ite_self, e3, bTuple_list]
    repeat rw [T.wp_bind]
    refine draw_wp (by omega) (by omega) fun p p0 p1 => ?_
    simp -implicitDefEqProofs only [PL.bin, PL.un, PL.call, PL.ap0, PL.ap1, PL.ap2, PL.ap3, PL.ap4, PL.ap5, PL.ap6, PL.con, PL.blt, PL.tup, PL.lst, PL.lcP, PL.items, itemsOf, PL.sl, PL.bvP, PL.lvP, PL.kvP, p_vb, asI_i, PL.tgV, PL.tgO, PL.tgC, PL.tgT, PL.andP, PL.orP, PL.notP, PL.iteP, PL.isi, PL.cmp2, PL.appP, PL.thenR, PL.thenB, bind_r, bind_s, wp_ret, bind_ite, kv_of, kb_of, kl_of, kk_of, kf_v, kf_l, kk_val, e_chk, each_nil, each_cons, forN_nil, forN_cons, forB_nil, forB_cons, List.append_nil, List.nil_append, List.cons_append, List.length_cons, List.length_nil, Bool.false_eq_true, if_true, if_false, Bool.not_true, Bool.not_false, Nat.zero_add, Nat.le_refl, Nat.zero_le, isi_none, isi_bool, isi_int, isi_str, isi_list, isi_tuple, isi_dict, dIs, dIsNot, isn_none, isn_int, isn_bool, isn_str, isn_tup, isn_lst, isn_dict, decide_eq_true_eq, Bool.not_eq_true, Nat.reduceLeDiff, Nat.reduceAdd, Nat.reduceSub, reduceIte, ite_self]
    exact ⟨n, l', p, ⟨hn.1, hn.2, p0, p1, fun x hx => h2 x ((e4 x).mp hx), by omega⟩, rfl⟩
def Qs (q : DL.D) (w : Bool) (ts : List DL.D) : Prop := ∃ n mv p, Gm n mv p ∧ q = gm n mv p ∧ w = wB n mv p ∧ ts = told n mv p
section
variable {n p : Int} {mv : Mv}
theorem kabs (H : Gm n mv p) : ∀ i ∈ K n mv, i.natAbs ≤ 100000 := fun i hi => by
  have := K_in H hi
  have := H.n9
  omega
theorem s1 : strOk "wins" ∧ ("wins" : Str).length ≤ 20 := by unfold strOk; decide
theorem s2 : strOk "loses" ∧ ("loses" : Str).length ≤ 20 := by unfold strOk; decide
theorem sw (w : Bool) : strOk (word w) ∧ (word w).length ≤ 20 := by cases w; exact s2; exact s1
theorem told_bd (H : Gm n mv p) : Bd 100000 3 (.tuple (told n mv p)) ∧ wt (.tuple (told n mv p)) ≤ 5000 := by
  have kl := K_len H
  have w1 := wts _ (sw (wB n mv p)).2
  have wi := wtA_ints (K n mv)
  exact ⟨List.forall_mem_cons.mpr ⟨(sw _).1, List.forall_mem_cons.mpr ⟨bd_ints (h := 1) (kabs H), fun _ z => nomatch z⟩⟩, by unfold told; simp only [wt, wtA] at *; omega⟩
theorem wtA_prs (l : Mv) : wtA (l.map movD) = 174 * l.length := by
  induction l with
  | nil => rfl
  | cons i l ih => rw [List.map_cons, wtA, ih, List.length_cons]; unfold movD; simp only [wt, wtA]; omega
theorem bd_prs {B h : Nat} {l : Mv} (hl : ∀ x ∈ l, x.1.natAbs ≤ B ∧ x.2.natAbs ≤ B) : Bd B (h + 2) (.tuple (l.map movD)) := fun x hx => by
  obtain ⟨i, hi, rfl⟩ := List.mem_map.mp hx
  have := hl i hi
  exact List.forall_mem_cons.mpr ⟨by cases h <;> exact this.1, List.forall_mem_cons.mpr ⟨by cases h <;> exact this.2, fun _ z => nomatch z⟩⟩
theorem sF_none (H : Gm n mv p) : sF n mv (K n mv) = .none := by
  have h : ∀ k : Nat, k < n.toNat → decide ((k : Int) ∈ K n mv) = !lead mv (K n mv) (k : Int) := fun k hk => by
    have := K_iff H (s := (k : Int)) (by omega) (by omega)
    rw [← lead_iff] at this
    rw [Bool.eq_iff_iff, decide_eq_true_eq, this, Bool.not_eq_true']
    exact Bool.not_eq_true _ ▸ Iff.rfl
  unfold sF
  rw [firstI_none fun k hk => by rw [h k hk]; cases lead mv (K n mv) (k : Int) <;> rfl, firstI_none fun k hk => by rw [h k hk]; cases lead mv (K n mv) (k : Int) <;> rfl]
  rfl
theorem told_f (H : Gm n mv p) : p_law_f_games (gm n mv p) (.tuple (told n mv p)) = .ret .none := by
  have rK : rowS (.tuple (iL (K n mv))) 0 (n - 1) = true := rowS_of (fun i hi => by have := K_in H hi; omega) (lost_up _)
  have lK : lenOk (.tuple (iL (K n mv))) = true := by
    have := K_len H
    show decide ((iL (K n mv)).length ≤ 100000) = true
    rw [iL, List.length_map]; exact decide_eq_true (by omega)
  have sk := sF_none H
  obtain ⟨s, es⟩ : ∃ s, s = word (wB n mv p) := ⟨_, rfl⟩
  have hs : dEq (.str s) (.str "loses") = .ret (.v (.bool (decide (p ∈ K n mv)))) := by
    rw [es, dEq_str]; unfold wB; cases decide (p ∈ K n mv) <;> rfl
  have hn : (named (.tuple [.str s, .tuple (iL (K n mv))]) "wins" 2 || named (.tuple [.str s, .tuple (iL (K n mv))]) "loses" 2) = true := by
    rw [es, nm2, nm2]; unfold wB; cases decide (p ∈ K n mv) <;> rfl
  unfold told
  rw [← es]
  unfold p_law_f_games
  have ft := f_tail (p := p) H (κ := fun every_1 nexts_2 => T.bind (PL.call (ap3 p_law_lost_faults) (con (T.ret (.list every_1 : DL.D)) (con (bin KV dIx (T.ret (.tuple [.str s, .tuple (iL (K n mv))])) (T.ret ((.int 1) : DL.D))) (con (T.ret (.list nexts_2 : DL.D)) (T.ret []))))) fun found_6 => (iteP (bin KB dIsNot (T.ret found_6) (T.ret (.none : DL.D))) (T.ret found_6) (iteP (bin KB dNe (bvP (bin KB dIn (bin KV dIx (T.ret (gm n mv p)) (T.ret ((.int 2) : DL.D))) (bin KV dIx (T.ret (.tuple [.str s, .tuple (iL (K n mv))])) (T.ret ((.int 1) : DL.D))))) (bvP (bin KB dEq (bin KV dIx (T.ret (.tuple [.str s, .tuple (iL (K n mv))])) (T.ret ((.int 0) : DL.D))) (T.ret ((.str "loses") : DL.D))))) (tup (con (T.ret ((.str "start") : DL.D)) (con (bin KV dIx (T.ret (gm n mv p)) (T.ret ((.int 2) : DL.D))) (T.ret [])))) (T.ret (.none : DL.D)))))
  rw [ft]
  have bb : (decide (p ∈ K n mv) != decide (p ∈ K n mv)) = false := bne_self_eq_false _
  cases h1 : named (.tuple [.str s, .tuple (iL (K n mv))]) "wins" 2 with
  | true => simp -implicitDefEqProofs only [PL.bin, PL.un, PL.call, PL.ap0, PL.ap1, PL.ap2, PL.ap3, PL.ap4, PL.ap5, PL.ap6, PL.con, PL.blt, PL.tup, PL.lst, PL.lcP, PL.items, itemsOf, PL.sl, PL.bvP, PL.lvP, PL.kvP, p_vb, asI_i, PL.tgV, PL.tgO, PL.tgC, PL.tgT, PL.andP, PL.orP, PL.notP, PL.iteP, PL.isi, PL.cmp2, PL.appP, PL.thenR, PL.thenB, bind_r, bind_s, wp_ret, bind_ite, kv_of, kb_of, kl_of, kk_of, kf_v, kf_l, kk_val, e_chk, each_nil, each_cons, forN_nil, forN_cons, forB_nil, forB_cons, List.append_nil, List.nil_append, List.cons_append, List.length_cons, List.length_nil, Bool.false_eq_true, if_true, if_false, Bool.not_true, Bool.not_false, Nat.zero_add, Nat.le_refl, Nat.zero_le, isi_none, isi_bool, isi_int, isi_str, isi_list, isi_tuple, isi_dict, dIs, dIsNot, isn_none, isn_int, isn_bool, isn_str, isn_tup, isn_lst, isn_dict, decide_eq_true_eq, Bool.not_eq_true, Nat.reduceLeDiff, Nat.reduceAdd, Nat.reduceSub, reduceIte, ite_self, h_word, t2, p2, h1, i20, i21, q0, q2, dSub_int, up_row_is lK, rK, lost_of H, sk, dIn_it, hs, dNe_bl, bb]
  | false =>
    rw [h1, Bool.false_or] at hn
    simp -implicitDefEqProofs only [PL.bin, PL.un, PL.call, PL.ap0, PL.ap1, PL.ap2, PL.ap3, PL.ap4, PL.ap5, PL.ap6, PL.con, PL.blt, PL.tup, PL.lst, PL.lcP, PL.items, itemsOf, PL.sl, PL.bvP, PL.lvP, PL.kvP, p_vb, asI_i, PL.tgV, PL.tgO, PL.tgC, PL.tgT, PL.andP, PL.orP, PL.notP, PL.iteP, PL.isi, PL.cmp2, PL.appP, PL.thenR, PL.thenB, bind_r, bind_s, wp_ret, bind_ite, kv_of, kb_of, kl_of, kk_of, kf_v, kf_l, kk_val, e_chk, each_nil, each_cons, forN_nil, forN_cons, forB_nil, forB_cons, List.append_nil, List.nil_append, List.cons_append, List.length_cons, List.length_nil, Bool.false_eq_true, if_true, if_false, Bool.not_true, Bool.not_false, Nat.zero_add, Nat.le_refl, Nat.zero_le, isi_none, isi_bool, isi_int, isi_str, isi_list, isi_tuple, isi_dict, dIs, dIsNot, isn_none, isn_int, isn_bool, isn_str, isn_tup, isn_lst, isn_dict, decide_eq_true_eq, Bool.not_eq_true, Nat.reduceLeDiff, Nat.reduceAdd, Nat.reduceSub, reduceIte, ite_self, h_word, t2, p2, h1, hn, i20, i21, q0, q2, dSub_int, up_row_is lK, rK, lost_of H, sk, dIn_it, hs, dNe_bl, bb]
theorem sub_ok {m : Nat} {l : List Int} (hm : m ≤ 1000) (h : l.Sublist (upto m)) : (∀ i ∈ l, i.natAbs ≤ 100000) ∧ l.length ≤ 1000 := by
  refine ⟨fun i hi => ?_, ?_⟩
  · have := mem_upto.mp (h.subset hi); omega
  · have := h.length_le; rw [upto_len] at this; omega
theorem ex_is (H : Gm n mv p) (w : Bool) (o : DL.D) (l : List DL.D) (hl : l.length = 13) (hF : ∀ v ∈ l, Fine v) : (p_ex (gm n mv p) w (.tuple (told n mv p)) o l).wp fun l' => l'.length ≤ 50000 ∧ ∀ v ∈ l', Fine v := by
  have n1 := H.n1
  have n9 := H.n9
  have kl := K_len H
  have ka := kabs H
  have r8 : rng1 [.int 8] = .ret (rngD 0 8) := rng1_nat (n := 8) (by decide)
  have x0 : dIx (.tuple (told n mv p)) (.int 0) = .ret (.v (.str (word (wB n mv p)))) := dIx_tup (i := 0) rfl
  have x1 : dIx (.tuple (told n mv p)) (.int 1) = .ret (.v (.tuple (iL (K n mv)))) := dIx_tup (i := 1) rfl
  simp -implicitDefEqProofs only [p_ex, PL.con, bind_r, r8]
  refine T.wp_mono (forN_wpN (fun k (s : List DL.D) => s.length = 13 + 3 * k ∧ ∀ v ∈ s, Fine v) 8 (rngD 0 8) 0 l (by rw [rng_len]; decide) ⟨by omega, hF⟩ fun k _ k' s hn hs => ?_) fun s hs => ⟨?_, hs.2⟩
  rotate_left
  · have := hs.1; rw [rng_len] at this; omega
  obtain ⟨h1, h2⟩ := hs
  simp -implicitDefEqProofs only [PL.bin, PL.un, PL.call, PL.ap0, PL.ap1, PL.ap2, PL.ap3, PL.ap4, PL.ap5, PL.ap6, PL.con, PL.blt, PL.tup, PL.lst, PL.lcP, PL.items, itemsOf, PL.sl, PL.bvP, PL.lvP, PL.kvP, p_vb, asI_i, PL.tgV, PL.tgO, PL.tgC, PL.tgT, PL.andP, PL.orP, PL.notP, PL.iteP, PL.isi, PL.cmp2, PL.appP, PL.thenR, PL.thenB, bind_r, bind_s, wp_ret, bind_ite, kv_of, kb_of, kl_of, kk_of, kf_v, kf_l, kk_val, e_chk, each_nil, each_cons, forN_nil, forN_cons, forB_nil, forB_cons, List.append_nil, List.nil_append, List.cons_append, List.length_cons, List.length_nil, Bool.false_eq_true, if_true, if_false, Bool.not_true, Bool.not_false, Nat.zero_add, Nat.le_refl, Nat.zero_le, isi_none, isi_bool, isi_int, isi_str, isi_list, isi_tuple, isi_dict, dIs, dIsNot, isn_none, isn_int, isn_bool, isn_str, isn_tup, isn_lst, isn_dict, decide_eq_true_eq, Bool.not_eq_true, Nat.reduceLeDiff, Nat.reduceAdd, Nat.reduceSub, reduceIte, ite_self, q0, x0, x1]
  repeat rw [T.wp_bind]
  refine T.wp_mono (some_wp (m := n) (t := 2) (by omega) (by omega) (by decide) (by decide)) fun d ⟨l1, e1, s1'⟩ => ?_
  subst e1
  simp -implicitDefEqProofs only [PL.bin, PL.un, PL.call, PL.ap0, PL.ap1, PL.ap2, PL.ap3, PL.ap4, PL.ap5, PL.ap6, PL.con, PL.blt, PL.tup, PL.lst, PL.lcP, PL.items, itemsOf, PL.sl, PL.bvP, PL.lvP, PL.kvP, p_vb, asI_i, PL.tgV, PL.tgO, PL.tgC, PL.tgT, PL.andP, PL.orP, PL.notP, PL.iteP, PL.isi, PL.cmp2, PL.appP, PL.thenR, PL.thenB, bind_r, bind_s, wp_ret, bind_ite, kv_of, kb_of, kl_of, kk_of, kf_v, kf_l, kk_val, e_chk, each_nil, each_cons, forN_nil, forN_cons, forB_nil, forB_cons, List.append_nil, List.nil_append, List.cons_append, List.length_cons, List.length_nil, Bool.false_eq_true, if_true, if_false, Bool.not_true, Bool.not_false, Nat.zero_add, Nat.le_refl, Nat.zero_le, isi_none, isi_bool, isi_int, isi_str, isi_list, isi_tuple, isi_dict, dIs, dIsNot, isn_none, isn_int, isn_bool, isn_str, isn_tup, isn_lst, isn_dict, decide_eq_true_eq, Bool.not_eq_true, Nat.reduceLeDiff, Nat.reduceAdd, Nat.reduceSub, reduceIte, ite_self, q0, x0, x1]
  repeat rw [T.wp_bind]
  refine T.wp_mono (some_wp (m := n) (t := 3) (by omega) (by omega) (by decide) (by decide)) fun d ⟨l2, e2, s2'⟩ => ?_
  subst e2
  have sa := sub_ok (by omega) s1'
  have sb := sub_ok (by omega) s2'
  have ad : ∀ p q r : DL.D, dAdd (.list s) (.list [p, q, r]) = .ret (.o (.lst (s ++ [p, q, r]))) := fun p q r => dAdd_list (by rw [h1]; simp only [List.length_cons, List.length_nil]; omega)
  simp -implicitDefEqProofs only [PL.bin, PL.un, PL.call, PL.ap0, PL.ap1, PL.ap2, PL.ap3, PL.ap4, PL.ap5, PL.ap6, PL.con, PL.blt, PL.tup, PL.lst, PL.lcP, PL.items, itemsOf, PL.sl, PL.bvP, PL.lvP, PL.kvP, p_vb, asI_i, PL.tgV, PL.tgO, PL.tgC, PL.tgT, PL.andP, PL.orP, PL.notP, PL.iteP, PL.isi, PL.cmp2, PL.appP, PL.thenR, PL.thenB, bind_r, bind_s, wp_ret, bind_ite, kv_of, kb_of, kl_of, kk_of, kf_v, kf_l, kk_val, e_chk, each_nil, each_cons, forN_nil, forN_cons, forB_nil, forB_cons, List.append_nil, List.nil_append, List.cons_append, List.length_cons, List.length_nil, Bool.false_eq_true, if_true, if_false, Bool.not_true, Bool.not_false, Nat.zero_add, Nat.le_refl, Nat.zero_le, isi_none, isi_bool, isi_int, isi_str, isi_list, isi_tuple, isi_dict, dIs, dIsNot, isn_none, isn_int, isn_bool, isn_str, isn_tup, isn_lst, isn_dict, decide_eq_true_eq, Bool.not_eq_true, Nat.reduceLeDiff, Nat.reduceAdd, Nat.reduceSub, reduceIte, ite_self, q0, x0, x1, ad, dSl_tup, cut_first]
  refine ⟨by simp only [List.length_append, h1, List.length_cons, List.length_nil]; omega, fun v hv => ?_⟩
  simp only [List.mem_append, List.mem_cons, List.not_mem_nil, or_false] at hv
  rcases hv with hv | rfl | rfl | rfl
  · exact h2 v hv
  · exact fine_row2 (sw _).1 (sw _).2 sa.1 sa.2
  · exact fine_row2 s2.1 s2.2 sb.1 sb.2
  · rw [← List.map_drop]
    exact fine_row2 (sw _).1 (sw _).2 (fun i hi => ka i (List.mem_of_mem_drop hi)) (by rw [List.length_drop]; omega)
end
theorem ok : Ok 100000 3 5000 Qs where
  hno := by decide
  hB := by decide
  hh := by decide
  hW := by decide
  s1 := s1
  s2 := s2
  draw := T.wp_mono q_draw fun q ⟨n, mv, p, H, e⟩ => ⟨_, _, n, mv, p, H, e, rfl, rfl⟩
  q_bd := fun ⟨n, mv, p, H, e, _⟩ => by
    subst e
    have h9 := H.n9
    have h0 := H.n1
    have a := H.p0
    have b := H.p1
    have hl := H.ml
    have wi := wtA_prs mv
    exact ⟨List.forall_mem_cons.mpr ⟨(by show n.natAbs ≤ 100000; omega), List.forall_mem_cons.mpr ⟨bd_prs (h := 0) (fun i hi => by have := H.m1 i hi; omega), List.forall_mem_cons.mpr ⟨(by show p.natAbs ≤ 100000; omega), fun _ z => nomatch z⟩⟩⟩, by unfold gm; simp only [wt, wtA] at *; omega, _, rfl⟩
  yes := fun ⟨n, mv, p, H, e, e2, _⟩ => by subst e e2; exact yes_is H
  paper := fun ⟨n, mv, p, H, e, _, e3⟩ => by subst e e3; exact paper_is H
  t_bd := fun ⟨n, mv, p, H, e, _, e3⟩ => by subst e3; exact told_bd H
  t_f := fun ⟨n, mv, p, H, e, _, e3⟩ => by subst e e3; exact told_f H
  t_0 := fun ⟨n, mv, p, H, e, e2, e3⟩ => by subst e2 e3; rfl
  holds := fun ⟨n, mv, p, H, e, e2, _⟩ => by subst e e2; exact holds_is H
  fault := fun ⟨n, mv, p, H, e, _⟩ v hv => by
    subst e
    obtain ⟨d, h1, h2, h3⟩ := faults H v hv
    obtain ⟨B, h4, h5⟩ := h3.bd
    exact ⟨d, B, h1, h2, h4.mono (Nat.le_refl _) (by decide), h5⟩
  quest := quest_is
  extra := fun ⟨n, mv, p, H, e, _, e3⟩ _ l hl hF => by subst e e3; exact ex_is H _ _ l hl hF
theorem main_holds : (m_law ((List.replicate 11 DL.Sl.u).set 1 (.o .pool))).wp fun p => p.1 = .rt (.v (.bool true)) := main_of ok
end K31

open PySem PySem.W PyProof.Rows in
set_option maxHeartbeats 0 in
theorem PySem.Challenge.cw_everyreason_k31_whole_games_holds : PySem.Challenge.rw_everyreason_k31_whole_games.Holds := by
  w_on; o_law; k_head; (case hw => w_witness2)
  k_fill
  refine DL.law_walk (l := PySem.Challenge.rw_everyreason_k31_whole_games) rfl rfl (fun w h Y => PySem.W.kIn_of Y) ?R
  case R =>
    intro w mg fa h KX G hmg
    refine' K31.runs (K31.Tx.mk
      (DL.def_mk KX G ?a0 ?l0 ?c0 ?k0 (fun _ _ _ _ _ _ us hl => match us, hl with | [_], _ => rfl))
      (DL.def_mk KX G ?a1 ?l1 ?c1 ?k1 (fun _ _ _ _ _ _ us hl => match us, hl with | [_, _, _], _ => rfl))
      (DL.def_mk KX G ?a2 ?l2 ?c2 ?k2 (fun _ _ _ _ _ _ us hl => match us, hl with | [_, _, _, _], _ => rfl))
      (DL.def_mk KX G ?a3 ?l3 ?c3 ?k3 (fun _ _ _ _ _ _ us hl => match us, hl with | [_, _, _], _ => rfl))
      (DL.def_mk KX G ?a4 ?l4 ?c4 ?k4 (fun _ _ _ _ _ _ us hl => match us, hl with | [_], _ => rfl))
      (DL.def_mk KX G ?a5 ?l5 ?c5 ?k5 (fun _ _ _ _ _ _ us hl => match us, hl with | [_, _, _], _ => rfl))
      (DL.def_mk KX G ?a6 ?l6 ?c6 ?k6 (fun _ _ _ _ _ _ us hl => match us, hl with | [_, _, _], _ => rfl))
      (DL.def_mk KX G ?a7 ?l7 ?c7 ?k7 (fun _ _ _ _ _ _ us hl => match us, hl with | [_, _, _], _ => rfl))
      (DL.def_mk KX G ?a8 ?l8 ?c8 ?k8 (fun _ _ _ _ _ _ us hl => match us, hl with | [_], _ => rfl))
      (DL.def_mk KX G ?a9 ?l9 ?c9 ?k9 (fun _ _ _ _ _ _ us hl => match us, hl with | [_], _ => rfl))
      (DL.def_mk KX G ?a10 ?l10 ?c10 ?k10 (fun _ _ _ _ _ _ us hl => match us, hl with | [_, _], _ => rfl))
      (DL.def_mk KX G ?a11 ?l11 ?c11 ?k11 (fun _ _ _ _ _ _ us hl => match us, hl with | [_], _ => rfl))
      (DL.def_mk KX G ?a12 ?l12 ?c12 ?k12 (fun _ _ _ _ _ _ us hl => match us, hl with | [_], _ => rfl))
      (DL.def_mk KX G ?a13 ?l13 ?c13 ?k13 (fun _ _ _ _ _ _ us hl => match us, hl with | [_], _ => rfl))
      (DL.def_mk KX G ?a14 ?l14 ?c14 ?k14 (fun _ _ _ _ _ _ us hl => match us, hl with | [_], _ => rfl))
      (DL.def_mk KX G ?a15 ?l15 ?c15 ?k15 (fun _ _ _ _ _ _ us hl => match us, hl with | [_, _, _], _ => rfl))
      (DL.def_mk KX G ?a16 ?l16 ?c16 ?k16 (fun _ _ _ _ _ _ us hl => match us, hl with | [_, _, _], _ => rfl))
      (DL.def_mk KX G ?a17 ?l17 ?c17 ?k17 (fun _ _ _ _ _ _ us hl => match us, hl with | [_, _], _ => rfl))
      (DL.def_mk KX G ?a18 ?l18 ?c18 ?k18 (fun _ _ _ _ _ _ us hl => match us, hl with | [_], _ => rfl))
      (DL.def_mk KX G ?a19 ?l19 ?c19 ?k19 (fun _ _ _ _ _ _ us hl => match us, hl with | [_, _], _ => rfl))
      (DL.def_mk KX G ?a20 ?l20 ?c20 ?k20 (fun _ _ _ _ _ _ us hl => match us, hl with | [_], _ => rfl))
      (DL.def_mk KX G ?a21 ?l21 ?c21 ?k21 (fun _ _ _ _ _ _ us hl => match us, hl with | [_], _ => rfl))
      (DL.def_mk KX G ?a22 ?l22 ?c22 ?k22 (fun _ _ _ _ _ _ us hl => match us, hl with | [_, _], _ => rfl))
      (DL.def_mk KX G ?a23 ?l23 ?c23 ?k23 (fun _ _ _ _ _ _ us hl => match us, hl with | [_, _], _ => rfl))
      (DL.def_mk KX G ?a24 ?l24 ?c24 ?k24 (fun _ _ _ _ _ _ us hl => match us, hl with | [_], _ => rfl))
      (DL.def_mk KX G ?a25 ?l25 ?c25 ?k25 (fun _ _ _ _ _ _ us hl => match us, hl with | [_, _], _ => rfl))
      (DL.def_mk KX G ?a26 ?l26 ?c26 ?k26 (fun _ _ _ _ _ _ us hl => match us, hl with | [], _ => rfl))
      (DL.def_mk KX G ?a27 ?l27 ?c27 ?k27 (fun _ _ _ _ _ _ us hl => match us, hl with | [_], _ => rfl))
      (DL.def_mk KX G ?a28 ?l28 ?c28 ?k28 (fun _ _ _ _ _ _ us hl => match us, hl with | [_, _, _, _], _ => rfl))
      (DL.def_mk KX G ?a29 ?l29 ?c29 ?k29 (fun _ _ _ _ _ _ us hl => match us, hl with | [_, _, _], _ => rfl))
      (DL.def_mk KX G ?a30 ?l30 ?c30 ?k30 (fun _ _ _ _ _ _ us hl => match us, hl with | [_, _, _], _ => rfl))
      (DL.def_mk KX G ?a31 ?l31 ?c31 ?k31 (fun _ _ _ _ _ _ us hl => match us, hl with | [_, _, _], _ => rfl))
      (DL.def_mk KX G ?a32 ?l32 ?c32 ?k32 (fun _ _ _ _ _ _ us hl => match us, hl with | [_, _, _], _ => rfl))
      (DL.def_mk KX G ?a33 ?l33 ?c33 ?k33 (fun _ _ _ _ _ _ us hl => match us, hl with | [_], _ => rfl))
      (DL.def_mk KX G ?a34 ?l34 ?c34 ?k34 (fun _ _ _ _ _ _ us hl => match us, hl with | [_], _ => rfl))
      (DL.def_mk KX G ?a35 ?l35 ?c35 ?k35 (fun _ _ _ _ _ _ us hl => match us, hl with | [_, _, _], _ => rfl))
      (DL.def_mk KX G ?a36 ?l36 ?c36 ?k36 (fun _ _ _ _ _ _ us hl => match us, hl with | [_], _ => rfl))
      (DL.def_mk KX G ?a37 ?l37 ?c37 ?k37 (fun _ _ _ _ _ _ us hl => match us, hl with | [_], _ => rfl))
      (DL.def_mk KX G ?a38 ?l38 ?c38 ?k38 (fun _ _ _ _ _ _ us hl => match us, hl with | [_, _, _], _ => rfl))
      (DL.def_mk KX G ?a39 ?l39 ?c39 ?k39 (fun _ _ _ _ _ _ us hl => match us, hl with | [_], _ => rfl))
      (DL.def_mk KX G ?a40 ?l40 ?c40 ?k40 (fun _ _ _ _ _ _ us hl => match us, hl with | [_, _, _], _ => rfl))
      (DL.def_mk KX G ?a41 ?l41 ?c41 ?k41 (fun _ _ _ _ _ _ us hl => match us, hl with | [_, _], _ => rfl))
      (DL.def_mk KX G ?a42 ?l42 ?c42 ?k42 (fun _ _ _ _ _ _ us hl => match us, hl with | [_], _ => rfl))
      (PySem.W.mg_none_of KX G ?z_all)
      (PySem.W.mg_none_of KX G ?z_any)
      (PySem.W.mg_none_of KX G ?z_bool)
      (PySem.W.mg_none_of KX G ?z_int)
      (PySem.W.mg_none_of KX G ?z_isinstance)
      (PySem.W.mg_none_of KX G ?z_len)
      (PySem.W.mg_none_of KX G ?z_list)
      (PySem.W.mg_none_of KX G ?z_max)
      (PySem.W.mg_none_of KX G ?z_min)
      (PySem.W.mg_none_of KX G ?z_range)
      (PySem.W.mg_none_of KX G ?z_repr)
      (PySem.W.mg_none_of KX G ?z_set)
      (PySem.W.mg_none_of KX G ?z_sorted)
      (PySem.W.mg_none_of KX G ?z_str)
      (PySem.W.mg_none_of KX G ?z_tuple)
      (DL.glob_ref KX G ?g_FORM (DL.rep_tupK (xs := [.str "form", .int (0)]) ?t_FORM ?n_FORM ?v_FORM (fun _ => (.cons (.str _) (.cons (.int _) .nil)))))
      (DL.glob_int KX G ?g_MOST)
      (DL.glob_int KX G ?g_MOST_MOVES)) hmg ⟨rfl, by decide, by decide⟩ K31.main_holds
    (case a0 => k_is); (case l0 => k_is); (case c0 => k_is); (case k0 => k_is); (case a1 => k_is); (case l1 => k_is); (case c1 => k_is); (case k1 => k_is); (case a2 => k_is); (case l2 => k_is); (case c2 => k_is); (case k2 => k_is); (case a3 => k_is); (case l3 => k_is); (case c3 => k_is); (case k3 => k_is); (case a4 => k_is); (case l4 => k_is); (case c4 => k_is); (case k4 => k_is); (case a5 => k_is); (case l5 => k_is); (case c5 => k_is); (case k5 => k_is); (case a6 => k_is); (case l6 => k_is); (case c6 => k_is); (case k6 => k_is); (case a7 => k_is); (case l7 => k_is); (case c7 => k_is); (case k7 => k_is); (case a8 => k_is); (case l8 => k_is); (case c8 => k_is); (case k8 => k_is); (case a9 => k_is); (case l9 => k_is); (case c9 => k_is); (case k9 => k_is); (case a10 => k_is); (case l10 => k_is); (case c10 => k_is); (case k10 => k_is); (case a11 => k_is); (case l11 => k_is); (case c11 => k_is); (case k11 => k_is); (case a12 => k_is); (case l12 => k_is); (case c12 => k_is); (case k12 => k_is); (case a13 => k_is); (case l13 => k_is); (case c13 => k_is); (case k13 => k_is); (case a14 => k_is); (case l14 => k_is); (case c14 => k_is); (case k14 => k_is); (case a15 => k_is); (case l15 => k_is); (case c15 => k_is); (case k15 => k_is); (case a16 => k_is); (case l16 => k_is); (case c16 => k_is); (case k16 => k_is); (case a17 => k_is); (case l17 => k_is); (case c17 => k_is); (case k17 => k_is); (case a18 => k_is); (case l18 => k_is); (case c18 => k_is); (case k18 => k_is); (case a19 => k_is); (case l19 => k_is); (case c19 => k_is); (case k19 => k_is); (case a20 => k_is); (case l20 => k_is); (case c20 => k_is); (case k20 => k_is); (case a21 => k_is); (case l21 => k_is); (case c21 => k_is); (case k21 => k_is); (case a22 => k_is); (case l22 => k_is); (case c22 => k_is); (case k22 => k_is); (case a23 => k_is); (case l23 => k_is); (case c23 => k_is); (case k23 => k_is); (case a24 => k_is); (case l24 => k_is); (case c24 => k_is); (case k24 => k_is); (case a25 => k_is); (case l25 => k_is); (case c25 => k_is); (case k25 => k_is); (case a26 => k_is); (case l26 => k_is); (case c26 => k_is); (case k26 => k_is); (case a27 => k_is); (case l27 => k_is); (case c27 => k_is); (case k27 => k_is); (case a28 => k_is); (case l28 => k_is); (case c28 => k_is); (case k28 => k_is); (case a29 => k_is); (case l29 => k_is); (case c29 => k_is); (case k29 => k_is); (case a30 => k_is); (case l30 => k_is); (case c30 => k_is); (case k30 => k_is); (case a31 => k_is); (case l31 => k_is); (case c31 => k_is); (case k31 => k_is); (case a32 => k_is); (case l32 => k_is); (case c32 => k_is); (case k32 => k_is); (case a33 => k_is); (case l33 => k_is); (case c33 => k_is); (case k33 => k_is); (case a34 => k_is); (case l34 => k_is); (case c34 => k_is); (case k34 => k_is); (case a35 => k_is); (case l35 => k_is); (case c35 => k_is); (case k35 => k_is); (case a36 => k_is); (case l36 => k_is); (case c36 => k_is); (case k36 => k_is); (case a37 => k_is); (case l37 => k_is); (case c37 => k_is); (case k37 => k_is); (case a38 => k_is); (case l38 => k_is); (case c38 => k_is); (case k38 => k_is); (case a39 => k_is); (case l39 => k_is); (case c39 => k_is); (case k39 => k_is); (case a40 => k_is); (case l40 => k_is); (case c40 => k_is); (case k40 => k_is); (case a41 => k_is); (case l41 => k_is); (case c41 => k_is); (case k41 => k_is); (case a42 => k_is); (case l42 => k_is); (case c42 => k_is); (case k42 => k_is); (case z_all => k_is); (case z_any => k_is); (case z_bool => k_is); (case z_int => k_is); (case z_isinstance => k_is); (case z_len => k_is); (case z_list => k_is); (case z_max => k_is); (case z_min => k_is); (case z_range => k_is); (case z_repr => k_is); (case z_set => k_is); (case z_sorted => k_is); (case z_str => k_is); (case z_tuple => k_is); (case g_FORM => k_is); (case t_FORM => k_is); (case n_FORM => exact (by decide)); (case v_FORM => exact (.cons ⟨_, rfl⟩ (.cons ⟨_, rfl⟩ .nil))); (case g_MOST => k_is); (case g_MOST_MOVES => k_is)

