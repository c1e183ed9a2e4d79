import PyProof.Rows.All
import Wide.All
import OpenK.AllK
import Wide.FinOn
import HandS.ForMost
import HandS.ForExc
import HandS.Zip
import HandS.Style
import HandS.SortInts
import HandS.Deep
import HandS.IsInst
import HandS.TryMany
import HandS.TupAny
import HandS.Rev
import HandS.SetKeys
import HandS.TupLe
import HandS.Strs
import HandS.Conv
import HandS.Wide
import PyProof.Draws
import HandS.ExcIs
import HandS.ExcField
import HandS.ExcSuper
import HandS.More
import Lean
import HandS.HeadEnd
import HandS.Head0
import HandS.Head1
import HandS.Head2
import HandS.HeadHook1
import HandS.HeadHook2
import PySem.Challenge.RW_mergesofmany_k00_any_two_tell_the_third
set_option Elab.async false
set_option linter.all false
set_option maxRecDepth 100000
/-! TM0: typed views of values, owned objects, the results of mirrors. -/
namespace TM
open PySem L2

abbrev Fg := PySem.W.Frag

/-! ### what a mirror hands back -/
inductive Pay where
  | no | int (i : Int) | ints (l : List Int)
  deriving DecidableEq
structure Exc where
  name : Str
  pay : Pay
  deriving DecidableEq
inductive Res (α : Type) where
  | ok (x : α) | exc (e : Exc) | bad
def Res.bind {α β : Type} (m : Res α) (f : α → Res β) : Res β := match m with
  | .ok x => f x
  | .exc e => .exc e
  | .bad => .bad
instance : Monad Res where
  pure := Res.ok
  bind := Res.bind
/-- nothing may be raised -/
def Res.calm {α : Type} (m : Res α) : Res α := match m with
  | .ok x => .ok x
  | .exc _ => .bad
  | .bad => .bad
def Res.map {α β : Type} (f : α → β) (m : Res α) : Res β := m.bind fun x => .ok (f x)
def Res.wp {α : Type} (m : Res α) (X : Exc → Prop) (Q : α → Prop) : Prop := match m with
  | .ok x => Q x
  | .exc e => X e
  | .bad => False
theorem Res.wp_bind {α β : Type} {m : Res α} {f : α → Res β} {X : Exc → Prop} {Q : β → Prop} : (m.bind f).wp X Q ↔ m.wp X fun x => (f x).wp X Q := by
  cases m <;> exact Iff.rfl
theorem Res.wp_mono {α : Type} {m : Res α} {X : Exc → Prop} {Q Q' : α → Prop} (h : m.wp X Q) (k : ∀ x, Q x → Q' x) : m.wp X Q' := by
  cases m with
  | ok x => exact k x h
  | exc e => exact h
  | bad => exact h
theorem Res.wp_calm {α : Type} {m : Res α} {X : Exc → Prop} {Q : α → Prop} (h : m.calm.wp X Q) : m.wp (fun _ => False) Q := by
  cases m with
  | ok x => exact h
  | exc e => exact h.elim
  | bad => exact h.elim

/-! ### typed views -/
structure Ty where
  T : Type
  rep : Fg → Hp → V → T → Prop
  mono : ∀ {K : Fg} {H H' : Hp} {v : V} {x : T}, Same H H' → rep K H v x → rep K H' v x
def Ty.Imm (τ : Ty) : Prop := ∀ {K : Fg} {H H' : Hp} {v : V} {x : τ.T}, (∀ a o, H a = some o → ¬ Mut (some o) → H' a = some o) → τ.rep K H v x → τ.rep K H' v x
def Ty.Flat (τ : Ty) : Prop := ∀ {K : Fg} {H H' : Hp} {v : V} {x : τ.T}, τ.rep K H v x → τ.rep K H' v x
theorem Ty.Flat.imm {τ : Ty} (h : τ.Flat) : τ.Imm := fun _ r => h r

theorem sqT_mono {K : Fg} {H H' : Hp} {a : Addr} {xs : List V} (e : Same H H') (h : SqT K H a xs) : SqT K H' a xs := by
  rcases h with (h | ⟨o, h⟩) | h
  · exact .inl (.inl (e _ _ h))
  · exact .inl (.inr ⟨o, e _ _ h⟩)
  · exact .inr h
theorem sqT_imm {K : Fg} {H H' : Hp} {a : Addr} {xs : List V} (e : ∀ a o, H a = some o → ¬ Mut (some o) → H' a = some o) (h : SqT K H a xs) : SqT K H' a xs := by
  rcases h with (h | ⟨o, h⟩) | h
  · exact .inl (.inl (e _ _ h fun z => z))
  · exact .inl (.inr ⟨o, e _ _ h fun z => z⟩)
  · exact .inr h

theorem paired_imp {α β : Type} {F G : α → β → Prop} {l : List α} {m : List β} (h : Paired F l m) (k : ∀ a b, F a b → G a b) : Paired G l m := Paired.mapP h k
theorem paired_get {α β : Type} {F : α → β → Prop} : ∀ {l : List α} {m : List β} {i : Nat} {y : β}, Paired F l m → m[i]? = some y → ∃ x, l[i]? = some x ∧ F x y
  | _, _, _, _, .nil, e => by simp at e
  | _, _, 0, _, .cons r _, e => by simp at e; subst e; exact ⟨_, rfl, r⟩
  | _, _, i + 1, y, .cons _ t, e => by
    obtain ⟨u, h1, h2⟩ := paired_get (i := i) (y := y) t (by simpa using e)
    exact ⟨u, by simpa using h1, h2⟩
theorem paired_len {α β : Type} {F : α → β → Prop} {l : List α} {m : List β} (h : Paired F l m) : l.length = m.length := Paired.length h
theorem paired_append {α β : Type} {F : α → β → Prop} : ∀ {l l' : List α} {m m' : List β}, Paired F l m → Paired F l' m' → Paired F (l ++ l') (m ++ m')
  | _, _, _, _, .nil, h => h
  | _, _, _, _, .cons r t, h => .cons r (paired_append t h)
theorem paired_get_l {α β : Type} {F : α → β → Prop} : ∀ {l : List α} {m : List β} {i : Nat} {x : α}, Paired F l m → l[i]? = some x → ∃ y, m[i]? = some y ∧ F x y
  | _, _, _, _, .nil, e => by simp at e
  | _, _, 0, _, .cons r _, e => by simp at e; subst e; exact ⟨_, rfl, r⟩
  | _, _, i + 1, y, .cons _ t, e => by
    obtain ⟨u, h1, h2⟩ := paired_get_l (i := i) (x := y) t (by simpa using e)
    exact ⟨u, by simpa using h1, h2⟩

@[reducible] def tInt : Ty := ⟨Int, fun _ _ v x => v = .int x, fun _ h => h⟩
@[reducible] def tBool : Ty := ⟨Bool, fun _ _ v x => v = .bl x, fun _ h => h⟩
@[reducible] def tStr : Ty := ⟨Str, fun _ _ v x => v = .str x ∧ x.length ≤ sizeLine, fun _ h => h⟩
@[reducible] def tNone : Ty := ⟨Unit, fun _ _ v _ => v = .non, fun _ h => h⟩
@[reducible] def tOpt (τ : Ty) : Ty := ⟨Option τ.T, fun K H v x => match x with
  | none => v = .non
  | some y => v ≠ .non ∧ τ.rep K H v y, fun {_ _ _ _ x} e h => by
    cases x with
    | none => exact h
    | some y => exact ⟨h.1, τ.mono e h.2⟩⟩
@[reducible] def tList (τ : Ty) : Ty := ⟨List τ.T, fun K H v xs => ∃ a vs, v = .ref a ∧ H a = some (.lst vs) ∧ xs.length ≤ sizeLine ∧ Paired (τ.rep K H) vs xs, fun e ⟨a, vs, h1, h2, h3, h4⟩ =>
  ⟨a, vs, h1, e _ _ h2, h3, paired_imp h4 fun _ _ => τ.mono e⟩⟩
@[reducible] def tTup (τ : Ty) : Ty := ⟨List τ.T, fun K H v xs => ∃ a vs, v = .ref a ∧ SqT K H a vs ∧ xs.length ≤ sizeLine ∧ Paired (τ.rep K H) vs xs, fun e ⟨a, vs, h1, h2, h3, h4⟩ =>
  ⟨a, vs, h1, sqT_mono e h2, h3, paired_imp h4 fun _ _ => τ.mono e⟩⟩
/-- a list or a tuple -/
@[reducible] def tSeq (τ : Ty) : Ty := ⟨List τ.T, fun K H v xs => (tList τ).rep K H v xs ∨ (tTup τ).rep K H v xs, fun e h => h.elim (fun q => .inl ((tList τ).mono e q)) fun q => .inr ((tTup τ).mono e q)⟩
@[reducible] def tT2 (σ τ : Ty) : Ty := ⟨σ.T × τ.T, fun K H v x => ∃ a u w, v = .ref a ∧ SqT K H a [u, w] ∧ σ.rep K H u x.1 ∧ τ.rep K H w x.2, fun e ⟨a, u, w, h1, h2, h3, h4⟩ =>
  ⟨a, u, w, h1, sqT_mono e h2, σ.mono e h3, τ.mono e h4⟩⟩
@[reducible] def tT3 (ρ σ τ : Ty) : Ty := ⟨ρ.T × σ.T × τ.T, fun K H v x => ∃ a t u w, v = .ref a ∧ SqT K H a [t, u, w] ∧ ρ.rep K H t x.1 ∧ σ.rep K H u x.2.1 ∧ τ.rep K H w x.2.2, fun e ⟨a, t, u, w, h1, h2, h3, h4, h5⟩ =>
  ⟨a, t, u, w, h1, sqT_mono e h2, ρ.mono e h3, σ.mono e h4, τ.mono e h5⟩⟩

theorem flat_int : tInt.Flat := fun h => h
theorem flat_bool : tBool.Flat := fun h => h
theorem flat_str : tStr.Flat := fun h => h
theorem flat_none : tNone.Flat := fun h => h
theorem imm_int : tInt.Imm := flat_int.imm
theorem imm_bool : tBool.Imm := flat_bool.imm
theorem imm_str : tStr.Imm := flat_str.imm
theorem imm_none : tNone.Imm := flat_none.imm
theorem imm_opt {τ : Ty} (h : τ.Imm) : (tOpt τ).Imm := fun {K H H' v x} e r => by
  cases x with
  | none => exact r
  | some y => exact ⟨r.1, h e r.2⟩
theorem imm_tup {τ : Ty} (h : τ.Imm) : (tTup τ).Imm := fun e ⟨a, vs, h1, h2, h3, h4⟩ => ⟨a, vs, h1, sqT_imm e h2, h3, paired_imp h4 fun _ _ r => h e r⟩
theorem imm_t2 {σ τ : Ty} (h : σ.Imm) (h' : τ.Imm) : (tT2 σ τ).Imm := fun e ⟨a, u, w, h1, h2, h3, h4⟩ => ⟨a, u, w, h1, sqT_imm e h2, h e h3, h' e h4⟩
theorem imm_t3 {ρ σ τ : Ty} (h'' : ρ.Imm) (h : σ.Imm) (h' : τ.Imm) : (tT3 ρ σ τ).Imm := fun e ⟨a, t, u, w, h1, h2, h3, h4, h5⟩ => ⟨a, t, u, w, h1, sqT_imm e h2, h'' e h3, h e h4, h' e h5⟩

/-! ### three lists side by side -/
universe u1 u2
def Els {β : Type} {α : Type u2} {γ : Type} (R : β → γ → α → Prop) : List β → List γ → List α → Prop
  | [], [], [] => True
  | S :: Ss, v :: vs, x :: xs => R S v x ∧ Els R Ss vs xs
  | _, _, _ => False
end TM

set_option Elab.async false
set_option linter.all false
set_option maxRecDepth 100000
/-! TM1: kinds of slots, views of the heap, the pure judgements. -/
namespace TM
open PySem L2
universe u1 u2

def Els2 {γ : Type} {α : Type u2} (F : γ → α → Prop) : List γ → List α → Prop
  | [], [] => True
  | v :: vs, x :: xs => F v x ∧ Els2 F vs xs
  | _, _ => False
theorem Els2.pair {γ α : Type} {F : γ → α → Prop} : ∀ {vs : List γ} {xs : List α}, Els2 F vs xs → Paired F vs xs
  | [], [], _ => .nil
  | _ :: _, _ :: _, h => .cons h.1 h.2.pair
  | [], _ :: _, h => h.elim
  | _ :: _, [], h => h.elim
section
variable {β : Type} {α : Type u2} {γ : Type} {R R' : β → γ → α → Prop}
theorem Els.imp : ∀ {Ss : List β} {vs : List γ} {xs : List α}, Els R Ss vs xs → (∀ S v x, S ∈ Ss → R S v x → R' S v x) → Els R' Ss vs xs
  | [], [], [], _, _ => trivial
  | S :: Ss, v :: vs, x :: xs, h, k => ⟨k S v x List.mem_cons_self h.1, h.2.imp fun S' v' x' hm => k S' v' x' (List.mem_cons_of_mem _ hm)⟩
  | [], [], _ :: _, h, _ => h.elim
  | [], _ :: _, _, h, _ => h.elim
  | _ :: _, [], _, h, _ => h.elim
  | _ :: _, _ :: _, [], h, _ => h.elim
theorem Els.len : ∀ {Ss : List β} {vs : List γ} {xs : List α}, Els R Ss vs xs → Ss.length = xs.length ∧ vs.length = xs.length
  | [], [], [], _ => ⟨rfl, rfl⟩
  | S :: Ss, v :: vs, x :: xs, h => ⟨congrArg (· + 1) h.2.len.1, congrArg (· + 1) h.2.len.2⟩
  | [], [], _ :: _, h => h.elim
  | [], _ :: _, _, h => h.elim
  | _ :: _, [], _, h => h.elim
  | _ :: _, _ :: _, [], h => h.elim
theorem Els.get : ∀ {Ss : List β} {vs : List γ} {xs : List α} {i : Nat} {x : α}, Els R Ss vs xs → xs[i]? = some x → ∃ S v, Ss[i]? = some S ∧ vs[i]? = some v ∧ R S v x
  | [], [], [], i, x, _, e => by simp at e
  | S :: Ss, v :: vs, x :: xs, 0, y, h, e => ⟨S, v, rfl, rfl, by simp at e; subst e; exact h.1⟩
  | S :: Ss, v :: vs, x :: xs, i + 1, y, h, e => by
    obtain ⟨S', v', a, b, c⟩ := h.2.get (i := i) (by simpa using e)
    exact ⟨S', v', by simpa using a, by simpa using b, c⟩
  | [], [], _ :: _, _, _, h, _ => h.elim
  | [], _ :: _, _, _, _, h, _ => h.elim
  | _ :: _, [], _, _, _, h, _ => h.elim
  | _ :: _, _ :: _, [], _, _, h, _ => h.elim
theorem Els.append : ∀ {Ss Ss' : List β} {vs vs' : List γ} {xs xs' : List α}, Els R Ss vs xs → Els R Ss' vs' xs' → Els R (Ss ++ Ss') (vs ++ vs') (xs ++ xs')
  | [], _, [], _, [], _, _, h' => h'
  | S :: Ss, _, v :: vs, _, x :: xs, _, h, h' => ⟨h.1, h.2.append h'⟩
  | [], _, [], _, _ :: _, _, h, _ => h.elim
  | [], _, _ :: _, _, _, _, h, _ => h.elim
  | _ :: _, _, [], _, _, _, h, _ => h.elim
  | _ :: _, _, _ :: _, _, [], _, h, _ => h.elim
theorem Els.paired {F : γ → α → Prop} : ∀ {Ss : List β} {vs : List γ} {xs : List α}, Els (fun _ v x => F v x) Ss vs xs → Els2 F vs xs
  | [], [], [], _ => trivial
  | S :: Ss, v :: vs, x :: xs, h => ⟨h.1, h.2.paired⟩
  | [], [], _ :: _, h => h.elim
  | [], _ :: _, _, h => h.elim
  | _ :: _, [], _, h => h.elim
  | _ :: _, _ :: _, [], h => h.elim
theorem Els.set : ∀ {Ss : List β} {vs : List γ} {xs : List α} {i : Nat} {S : β} {v : γ} {x : α}, Els R Ss vs xs → R S v x → Els R (Ss.set i S) (vs.set i v) (xs.set i x)
  | [], [], [], _, _, _, _, _, _ => trivial
  | S :: Ss, v :: vs, x :: xs, 0, _, _, _, h, r => ⟨r, h.2⟩
  | S :: Ss, v :: vs, x :: xs, i + 1, _, _, _, h, r => ⟨h.1, h.2.set r⟩
  | [], [], _ :: _, _, _, _, _, h, _ => h.elim
  | [], _ :: _, _, _, _, _, _, h, _ => h.elim
  | _ :: _, [], _, _, _, _, _, h, _ => h.elim
  | _ :: _, _ :: _, [], _, _, _, _, h, _ => h.elim
end

/-! ### kinds: how a slot holds its value -/
structure Kd where
  ty : Ty
  st : Bool
  rep : Fg → List Addr → Hp → Hp → V → ty.T → Prop
  keep : ∀ {K : Fg} {S : List Addr} {H Hs H' Hs' : Hp} {v : V} {x : ty.T}, rep K S H Hs v x → (∀ a ∈ S, ∀ o, H a = some o → H' a = some o) → Same Hs Hs' → rep K S H' Hs' v x
  thaw : ∀ {K : Fg} {S : List Addr} {H Hs H2 : Hp} {v : V} {x : ty.T}, rep K S H Hs v x → Same Hs H2 → (∀ a ∈ S, ∀ o, H a = some o → H2 a = some o) → ty.rep K H2 v x
  stab : st = true → ∀ {K : Fg} {S : List Addr} {H Hs : Hp} {v : V} {x : ty.T}, rep K S H Hs v x → S = [] ∧ ty.rep K Hs v x
def Kd.Imm (κ : Kd) : Prop := ∀ {K : Fg} {S : List Addr} {H Hs Hs' : Hp} {v : V} {x : κ.ty.T}, (∀ a o, Hs a = some o → ¬ Mut (some o) → Hs' a = some o) → κ.rep K S H Hs v x → κ.rep K S H Hs' v x

/-- a value that nobody changes any more -/
@[reducible] def kVal (τ : Ty) : Kd where
  ty := τ
  st := true
  rep := fun K S _ Hs v x => S = [] ∧ τ.rep K Hs v x
  keep := fun h _ e => ⟨h.1, τ.mono e h.2⟩
  thaw := fun h e _ => τ.mono e h.2
  stab := fun _ _ _ _ _ _ _ h => h
theorem imm_kVal {τ : Ty} (h : τ.Imm) : (kVal τ).Imm := fun e r => ⟨r.1, h e r.2⟩

/-- a list of one's own (at a place that pin tells of), its items of the kind κ -/
@[reducible] def kLP (pin : Addr → Prop) (κ : Kd) : Kd where
  ty := tList κ.ty
  st := false
  rep := fun K S H Hs v xs => ∃ p vs Ss, v = .ref p ∧ pin p ∧ H p = some (.lst vs) ∧ xs.length ≤ sizeLine ∧ S = p :: Ss.flatten ∧ Els (fun S v x => κ.rep K S H Hs v x) Ss vs xs
  keep := fun {K S H Hs H' Hs' v x} h k e => by
    obtain ⟨p, vs, Ss, h1, h0, h2, h3, h4, h5⟩ := h
    subst h4
    refine ⟨p, vs, Ss, h1, h0, k p List.mem_cons_self _ h2, h3, rfl, ?_⟩
    exact h5.imp fun S v x hm r => κ.keep r (fun a ha o ho => k a (List.mem_cons_of_mem _ (List.mem_flatten.mpr ⟨S, hm, ha⟩)) o ho) e
  thaw := fun {K S H Hs H2 v x} ⟨p, vs, Ss, h1, _, h2, h3, h4, h5⟩ e k => ⟨p, vs, h1, k p (by rw [h4]; exact List.mem_cons_self) _ h2, h3, by
    have h6 : Els (fun S v x => κ.ty.rep K H2 v x) Ss vs x := h5.imp fun S v x hm r => κ.thaw r e fun a ha o ho => k a (by rw [h4]; exact List.mem_cons_of_mem _ (List.mem_flatten.mpr ⟨S, hm, ha⟩)) o ho
    exact h6.paired.pair⟩
  stab := fun h => nomatch h
abbrev kL (κ : Kd) : Kd := kLP (fun _ => True) κ
theorem imm_kLP {pin : Addr → Prop} {κ : Kd} (h : κ.Imm) : (kLP pin κ).Imm := fun e ⟨p, vs, Ss, h1, h0, h2, h3, h4, h5⟩ => ⟨p, vs, Ss, h1, h0, h2, h3, h4, h5.imp fun _ _ _ _ r => h e r⟩

/-- what a slot holds -/
structure Pk where
  κ : Kd
  x : κ.ty.T
abbrev Slot := Option Pk
abbrev sv (τ : Ty) (x : τ.T) : Slot := some ⟨kVal τ, x⟩
abbrev so (κ : Kd) (x : κ.ty.T) : Slot := some ⟨κ, x⟩
/-- the stable slots alone -/
def stab1 (s : Slot) : Slot := match s with
  | some p => if p.κ.st = true then some p else none
  | none => none
def stab (G : List Slot) : List Slot := G.map stab1

/-! ### views -/
structure View (H Hv : Hp) : Prop where
  sub : Same Hv H
  imm : ∀ a o, H a = some o → ¬ Mut (some o) → Hv a = some o
structure Grow (H Hv H' Hv' : Hp) : Prop where
  same : Same H H'
  view : View H' Hv'
  up : Same Hv Hv'
  fresh : ∀ a o, Hv' a = some o → Hv a = some o ∨ H a = none
theorem View.refl (H : Hp) : View H H := ⟨Same.refl H, fun _ _ h _ => h⟩
theorem Grow.refl {H Hv : Hp} (v : View H Hv) : Grow H Hv H Hv := ⟨Same.refl H, v, Same.refl Hv, fun _ _ h => .inl h⟩
theorem Grow.trans {H Hv H1 Hv1 H2 Hv2 : Hp} (a : Grow H Hv H1 Hv1) (b : Grow H1 Hv1 H2 Hv2) : Grow H Hv H2 Hv2 :=
  ⟨a.same.trans b.same, b.view, a.up.trans b.up, fun c o h => by
    rcases b.fresh c o h with h | h
    · exact a.fresh c o h
    · exact .inr (a.same.free h)⟩
theorem same_new {H : Hp} {p : Addr} {o : HO} (h : H p = none) : Same H (upd H p o) := fun a u e => by
  rw [upd_ne (ne_of_none e h)]
  exact e
/-- a new object that is to be seen -/
theorem Grow.new {H Hv : Hp} {p : Addr} {o : HO} (v : View H Hv) (h : H p = none) : Grow H Hv (upd H p o) (upd Hv p o) where
  same := same_new h
  view := ⟨fun a u e => by
    by_cases q : a = p
    · subst q; rw [upd_same] at e ⊢; exact e
    · rw [upd_ne q] at e ⊢; exact v.sub _ _ e, fun a u e m => by
    by_cases q : a = p
    · subst q; rw [upd_same] at e ⊢; exact e
    · rw [upd_ne q] at e ⊢; exact v.imm _ _ e m⟩
  up := fun a u e => by
    rw [upd_ne (ne_of_none (v.sub _ _ e) h)]
    exact e
  fresh := fun a u e => by
    by_cases q : a = p
    · subst q; exact .inr h
    · rw [upd_ne q] at e; exact .inl e
/-- a new object that is one's own (not in the view) -/
theorem Grow.newOwn {H Hv : Hp} {p : Addr} {o : HO} (v : View H Hv) (h : H p = none) (m : Mut (some o)) : Grow H Hv (upd H p o) Hv where
  same := same_new h
  view := ⟨v.sub.trans (same_new h), fun a u e n => by
    by_cases q : a = p
    · subst q; rw [upd_same] at e; cases e; exact (n m).elim
    · rw [upd_ne q] at e; exact v.imm _ _ e n⟩
  up := Same.refl Hv
  fresh := fun a u e => .inl e
theorem View.new {H Hv : Hp} {p : Addr} {o : HO} (v : View H Hv) (h : H p = none) : View (upd H p o) (upd Hv p o) := (Grow.new v h).view

/-- what is seen of the slots -/
structure VEnv (K : Fg) (Hv : Hp) (G : List Slot) (σ : St) : Prop where
  len : σ.length = G.length
  get : ∀ (i : Nat) (p : Pk), G[i]? = some (some p) → ∃ v, σ[i]? = some (some v) ∧ p.κ.ty.rep K Hv v p.x
theorem VEnv.mono {K : Fg} {Hv Hv' : Hp} {G : List Slot} {σ : St} (h : VEnv K Hv G σ) (e : Same Hv Hv') : VEnv K Hv' G σ := ⟨h.len, fun i p hi =>
  let ⟨v, a, b⟩ := h.get i p hi
  ⟨v, a, p.κ.ty.mono e b⟩⟩

/-! ### contexts -/
structure Bd where
  P : Program
  w : World
  K : Fg
  mg : Str → Option Value
  base : Heap
  k : Nat
  N : List Str
  sc : Scope
  calm : Bool
  sx : Cx → Prop
structure CxOk (B : Bd) (X : Cx) : Prop where
  P : X.prog = B.P
  w : X.w = B.w
  K : X.K = B.K
  mg : X.mg = B.mg
  base : X.base = B.base
  room : B.calm = true → Room B.k X.A
  N : X.N = B.N
  sc : X.env.scope = B.sc
  calm : X.calm = B.calm
  sx : B.sx X
theorem CxOk.fn {B : Bd} {X : Cx} (ok : CxOk B X) {k : Nat} {f : Addr} {fd : FuncData} {ps : List Str} {sp : Sp} (F : FnOk B.P B.w B.K B.mg B.base (L2.CX B.P B.w) k f fd ps sp) :
    FnOk X.prog X.w X.K X.mg X.base (L2.CX X.prog X.w) k f fd ps sp := by
  rw [ok.P, ok.w, ok.K, ok.mg, ok.base]
  exact F

/-- how an exception lies -/
def XRep (mg : Str → Option Value) (ex : Exc) (cls : Value) (d : Option Addr) (H : Hp) : Prop := ∃ C, mg ex.name = some (.ref C) ∧ cls = .ref C ∧ match ex.pay with
  | .no => d = none
  | .int i => ∃ dx, d = some dx ∧ ∃ f, H dx = some (.xd [(f, .int i)])
  | .ints l => ∃ dx, d = some dx ∧ ∃ f a, H dx = some (.xd [(f, .ref a)]) ∧ SqT default H a (l.map V.int)
def XW (B : Bd) (xok : Exc → Prop) (W : WX) (σ : St) (H : Hp) : Prop := ∀ ex, xok ex → ∀ cls d H', Same H H' → XRep B.mg ex cls d H' → W cls d σ H'
theorem XW.mono {B : Bd} {xok : Exc → Prop} {W : WX} {σ : St} {H H' : Hp} (h : XW B xok W σ H) (e : Same H H') : XW B xok W σ H' := fun ex hx cls d H2 s r => h ex hx cls d H2 (e.trans s) r

/-! ### the pure judgements -/
/-- e is a τ -/
def PJ (B : Bd) (G : List Slot) (e : Expr) (τ : Ty) (m : Res τ.T) : Prop := ∃ t : WX → TE, (∀ X W, CxOk B X → Takes X W → PE X e (t W)) ∧
  ∀ (W : WX) (xok : Exc → Prop) (σ : St) (H Hv : Hp) (Q : VK), View H Hv → VEnv B.K Hv G σ → XW B xok W σ H → (m.wp xok fun x => ∀ v H' Hv', Grow H Hv H' Hv' → τ.rep B.K Hv' v x → Q v H') → t W σ H Q
structure Fresh (S : List Addr) (H H' Hv' : Hp) : Prop where
  nodup : S.Nodup
  new : ∀ a ∈ S, H a = none
  live : ∀ a ∈ S, ∃ o, H' a = some o ∧ Mut (some o)
  sep : ∀ a ∈ S, Hv' a = none
/-- e is something new of the kind κ -/
def OJ (B : Bd) (G : List Slot) (e : Expr) (κ : Kd) (m : Res κ.ty.T) : Prop := ∃ t : WX → TE, (∀ X W, CxOk B X → Takes X W → PE X e (t W)) ∧
  ∀ (W : WX) (xok : Exc → Prop) (σ : St) (H Hv : Hp) (Q : VK), View H Hv → VEnv B.K Hv G σ → XW B xok W σ H → (m.wp xok fun x => ∀ v H' Hv' S, Grow H Hv H' Hv' → κ.rep B.K S H' Hv' v x → Fresh S H H' Hv' → Q v H') → t W σ H Q
/-- a test -/
def TJ (B : Bd) (G : List Slot) (e : Expr) (m : Res Bool) : Prop := ∃ t : WX → TT, (∀ X W, CxOk B X → Takes X W → PT X e (t W)) ∧
  ∀ (W : WX) (xok : Exc → Prop) (σ : St) (H Hv : Hp) (Q : Bool → Hp → Prop), View H Hv → VEnv B.K Hv G σ → XW B xok W σ H → (m.wp xok fun b => ∀ H' Hv', Grow H Hv H' Hv' → Q b H') → t W σ H Q
def WJ (B : Bd) (G : List Slot) (e : Expr) (m : Res Bool) : Prop := ∃ t : WX → TT, (∀ X W, CxOk B X → Takes X W → PW X e (t W)) ∧
  ∀ (W : WX) (xok : Exc → Prop) (σ : St) (H Hv : Hp) (Q : Bool → Hp → Prop), View H Hv → VEnv B.K Hv G σ → XW B xok W σ H → (m.wp xok fun b => ∀ H' Hv', Grow H Hv H' Hv' → Q b H') → t W σ H Q

section
variable {B : Bd} {G : List Slot} {e a b : Expr} {τ σ ρ : Ty} {κ : Kd} {pos : Pos}
theorem PJ.cast {m m' : Res τ.T} (h : PJ B G e τ m) (e' : m = m') : PJ B G e τ m' := e' ▸ h
theorem OJ.cast {m m' : Res κ.ty.T} (h : OJ B G e κ m) (e' : m = m') : OJ B G e κ m' := e' ▸ h
theorem TJ.cast {m m' : Res Bool} (h : TJ B G e m) (e' : m = m') : TJ B G e m' := e' ▸ h
/-- something new may be let go into the view -/
theorem grow_let {S : List Addr} {H Hv H' Hv' : Hp} (g : Grow H Hv H' Hv') (f : Fresh S H H' Hv') : Grow H Hv H' (fun a => if a ∈ S then H' a else Hv' a) where
  same := g.same
  view := ⟨fun a o e => by
    by_cases h : a ∈ S
    · simpa [h] using e
    · exact g.view.sub a o (by simpa [h] using e), fun a o e m => by
    by_cases h : a ∈ S
    · simpa [h] using e
    · simpa [h] using g.view.imm a o e m⟩
  up := fun a o e => by
    by_cases h : a ∈ S
    · have := g.up a o e
      rw [f.sep a h] at this
      cases this
    · simpa [h] using g.up a o e
  fresh := fun a o e => by
    by_cases h : a ∈ S
    · exact .inr (f.new a h)
    · exact g.fresh a o (by simpa [h] using e)
theorem let_same {S : List Addr} {H H' Hv' : Hp} (f : Fresh S H H' Hv') : Same Hv' (fun a => if a ∈ S then H' a else Hv' a) := fun a o e => by
  by_cases h : a ∈ S
  · rw [f.sep a h] at e; cases e
  · simpa [h] using e
theorem pj_of_oj {m : Res κ.ty.T} (h : OJ B G e κ m) : PJ B G e κ.ty m := by
  obtain ⟨t, h1, h2⟩ := h
  refine ⟨t, h1, fun W xok σ H Hv Q v ve xw q => h2 W xok σ H Hv Q v ve xw (Res.wp_mono q fun x k v H' Hv' S g r f => k v H' _ (grow_let g f) ?_)⟩
  exact κ.thaw r (let_same f) fun a ha o ho => by simpa [ha] using ho
theorem oj_of_pj {m : Res τ.T} (h : PJ B G e τ m) : OJ B G e (kVal τ) m := by
  obtain ⟨t, h1, h2⟩ := h
  exact ⟨t, h1, fun W xok σ H Hv Q v ve xw q => h2 W xok σ H Hv Q v ve xw (Res.wp_mono q fun x k v H' Hv' g r => k v H' Hv' [] g ⟨rfl, r⟩ ⟨.nil, fun _ z => (List.not_mem_nil z).elim, fun _ z => (List.not_mem_nil z).elim, fun _ z => (List.not_mem_nil z).elim⟩)⟩

/-! ### names, constants -/
theorem pj_var (i : Nat) {n : Str} {p : Pk} (hg : G[i]? = some (some p)) (hN : B.N[i]? = some n) (hv : Vis B.sc n) (hd : (n == ("__debug__" : Str)) = false := by decide) (hcd : (n == ("__classdict__" : Str)) = false := by decide) :
    PJ B G (.Name n pos) p.κ.ty (.ok p.x) := by
  refine ⟨fun _ => tVar i, fun X W ok _ => pe_var (by rw [ok.N]; exact hN) (by rw [ok.sc]; exact hv) hd hcd, fun W xok σ H Hv Q v ve xw q => ?_⟩
  obtain ⟨u, hu, r⟩ := ve.get i p hg
  exact ⟨u, hu, q u H Hv (Grow.refl v) r⟩
theorem pj_const {e : Expr} {τ : Ty} {x : τ.T} {v : V} (h : ∀ X, PE X e (tC v)) (r : ∀ H, τ.rep B.K H v x) : PJ B G e τ (.ok x) :=
  ⟨fun _ => tC v, fun X _ _ _ => h X, fun W xok σ H Hv Q vw ve xw q => q v H Hv (Grow.refl vw) (r Hv)⟩
theorem pj_int {i : Int} {j} : PJ B G (.Constant (.int i) j pos) tInt (.ok i) := pj_const (v := .int i) (fun _ => pe_int) fun _ => rfl
theorem pj_bl {b : Bool} {j} : PJ B G (.Constant (.bool b) j pos) tBool (.ok b) := pj_const (v := .bl b) (fun _ => pe_bl) fun _ => rfl
theorem pj_none {j} : PJ B G (.Constant .none j pos) tNone (.ok ()) := pj_const (v := .non) (fun _ => pe_non) fun _ => rfl
theorem pj_str {x : Str} {j} (h : x.length ≤ sizeLine) : PJ B G (.Constant (.str x) j pos) tStr (.ok x) := pj_const (v := .str x) (fun _ => pe_str) fun _ => ⟨rfl, h⟩

/-! ### two operands -/
/-- by values: x ∘ y is z, whatever the heap -/
def Op2 (K : Fg) (r : R2) (ρ σ τ : Ty) (g : ρ.T → σ.T → Res τ.T) : Prop := ∀ (H Hv : Hp) (v w : V) (x : ρ.T) (y : σ.T) (Q : VK), View H Hv → ρ.rep K Hv v x → σ.rep K Hv w y → ∀ z, g x y = .ok z → (∀ u H' Hv', Grow H Hv H' Hv' → τ.rep K Hv' u z → Q u H') → r v w H Q
/-- the machine of all rules with two parts -/
theorem two {ta tb : TE} {W : WX} {xok : Exc → Prop} {st : St} {H Hv : Hp} {ma : Res ρ.T} {mb : Res σ.T} {α : Type} {g : ρ.T → σ.T → Res α} {Qr : α → Prop} {R : V → V → Hp → Prop}
    (ha : ∀ (H Hv : Hp) (Q : VK), View H Hv → VEnv B.K Hv G st → XW B xok W st H → (ma.wp xok fun x => ∀ v H' Hv', Grow H Hv H' Hv' → ρ.rep B.K Hv' v x → Q v H') → ta st H Q)
    (hb : ∀ (H Hv : Hp) (Q : VK), View H Hv → VEnv B.K Hv G st → XW B xok W st H → (mb.wp xok fun x => ∀ v H' Hv', Grow H Hv H' Hv' → σ.rep B.K Hv' v x → Q v H') → tb st H Q)
    (vw : View H Hv) (ve : VEnv B.K Hv G st) (xw : XW B xok W st H) (q : (ma.bind fun x => mb.bind fun y => g x y).wp xok Qr)
    (k : ∀ x y v w H' Hv', (g x y).wp xok Qr → Grow H Hv H' Hv' → ρ.rep B.K Hv' v x → σ.rep B.K Hv' w y → R v w H') : ta st H fun v H1 => tb st H1 fun w H2 => R v w H2 := by
  refine ha H Hv _ vw ve xw (Res.wp_mono (Res.wp_bind.mp q) fun x q1 v H1 Hv1 g1 r1 => ?_)
  refine hb H1 Hv1 _ g1.view (ve.mono g1.up) (xw.mono g1.same) (Res.wp_mono (Res.wp_bind.mp q1) fun y q2 w H2 Hv2 g2 r2 => ?_)
  exact k x y v w H2 Hv2 q2 (g1.trans g2) (ρ.mono g2.up r1) r2
theorem pj_op {r : R2} {op : Operator} {ma : Res ρ.T} {mb : Res σ.T} {g : ρ.T → σ.T → Res τ.T} (ho : ∀ X, CxOk B X → OpR X (binaryOp op) r) (hr : Op2 B.K r ρ σ τ g) (hx : ∀ x y ex, g x y ≠ .exc ex) (ha : PJ B G a ρ ma) (hb : PJ B G b σ mb) :
    PJ B G (.BinOp a op b pos) τ (ma.bind fun x => mb.bind fun y => g x y) := by
  obtain ⟨ta, a1, a2⟩ := ha
  obtain ⟨tb, b1, b2⟩ := hb
  refine ⟨fun W => tOp r (ta W) (tb W), fun X W ok tk => pe_op (ho X ok) (a1 X W ok tk) (b1 X W ok tk), fun W xok st H Hv Q v ve xw q => ?_⟩
  refine two (fun H Hv Q => a2 W xok st H Hv Q) (fun H Hv Q => b2 W xok st H Hv Q) v ve xw q fun x y v w H' Hv' q' g' r1 r2 => ?_
  cases e : g x y with
  | ok z =>
    rw [e] at q'
    exact hr H' Hv' v w x y Q g'.view r1 r2 z e fun u H2 Hv2 g2 r3 => q' u H2 Hv2 (g'.trans g2) r3
  | exc ex => exact (hx x y ex e).elim
  | bad =>
    rw [e] at q'
    exact q'.elim
theorem pj_cmp {r : R2} {op : CmpOp} {ma : Res ρ.T} {mb : Res σ.T} {g : ρ.T → σ.T → Res τ.T} (ho : ∀ X, CxOk B X → OpR X (compareOp op) r) (hm : behindInMarks op b = false) (hr : Op2 B.K r ρ σ τ g) (hx : ∀ x y ex, g x y ≠ .exc ex) (ha : PJ B G a ρ ma) (hb : PJ B G b σ mb) :
    PJ B G (.Compare a [op] [b] pos) τ (ma.bind fun x => mb.bind fun y => g x y) := by
  obtain ⟨ta, a1, a2⟩ := ha
  obtain ⟨tb, b1, b2⟩ := hb
  refine ⟨fun W => tOp r (ta W) (tb W), fun X W ok tk => pe_cmpR (ho X ok) (a1 X W ok tk) (b1 X W ok tk) hm, fun W xok st H Hv Q v ve xw q => ?_⟩
  refine two (fun H Hv Q => a2 W xok st H Hv Q) (fun H Hv Q => b2 W xok st H Hv Q) v ve xw q fun x y v w H' Hv' q' g' r1 r2 => ?_
  cases e : g x y with
  | ok z =>
    rw [e] at q'
    exact hr H' Hv' v w x y Q g'.view r1 r2 z e fun u H2 Hv2 g2 r3 => q' u H2 Hv2 (g'.trans g2) r3
  | exc ex => exact (hx x y ex e).elim
  | bad =>
    rw [e] at q'
    exact q'.elim
theorem tj_cmp {r : R2} {op : CmpOp} {ma : Res ρ.T} {mb : Res σ.T} {g : ρ.T → σ.T → Res Bool} (ho : ∀ X, CxOk B X → OpR X (compareOp op) r) (hm : behindInMarks op b = false) (hr : Op2 B.K r ρ σ tBool g) (hx : ∀ x y ex, g x y ≠ .exc ex) (ha : PJ B G a ρ ma) (hb : PJ B G b σ mb) :
    TJ B G (.Compare a [op] [b] pos) (ma.bind fun x => mb.bind fun y => g x y) := by
  obtain ⟨ta, a1, a2⟩ := ha
  obtain ⟨tb, b1, b2⟩ := hb
  refine ⟨fun W => tTest (tOp r (ta W) (tb W)), fun X W ok tk => pt_cmpR (ho X ok) (a1 X W ok tk) (b1 X W ok tk) hm, fun W xok st H Hv Q v ve xw q => ?_⟩
  refine two (R := fun v w H => r v w H fun z H' => ∃ k, z = .bl k ∧ Q k H') (fun H Hv Q => a2 W xok st H Hv Q) (fun H Hv Q => b2 W xok st H Hv Q) v ve xw q fun x y v w H' Hv' q' g' r1 r2 => ?_
  cases e : g x y with
  | ok z =>
    rw [e] at q'
    exact hr H' Hv' v w x y _ g'.view r1 r2 z e fun u H2 Hv2 g2 r3 => ⟨z, r3, q' H2 Hv2 (g'.trans g2)⟩
  | exc ex => exact (hx x y ex e).elim
  | bad =>
    rw [e] at q'
    exact q'.elim
end
end TM

set_option Elab.async false
set_option linter.all false
set_option maxRecDepth 100000
/-! TM2: the pure rules: operators, subscripts, displays, built-in functions. -/
namespace TM
open PySem L2

/-! ### operators by values -/
theorem o2_I0 {K : Fg} {g : Int → Int → Int} : Op2 K (rI0 fun i j => .int (g i j)) tInt tInt tInt (fun x y => .ok (g x y)) := fun H Hv v w x y Q vw r1 r2 z e q => by
  cases e
  exact ⟨x, y, r1, r2, q _ H Hv (Grow.refl vw) rfl⟩
theorem o2_B0 {K : Fg} {g : Int → Int → Bool} : Op2 K (rI0 fun i j => .bl (g i j)) tInt tInt tBool (fun x y => .ok (g x y)) := fun H Hv v w x y Q vw r1 r2 z e q => by
  cases e
  exact ⟨x, y, r1, r2, q _ H Hv (Grow.refl vw) rfl⟩
def gate {α : Type} (c : Prop) [Decidable c] (x : α) : Res α := if c then .ok x else .bad
theorem gate_ok {α : Type} {c : Prop} [Decidable c] {x : α} (h : c) : gate c x = .ok x := if_pos h
theorem gate_exc {α : Type} {c : Prop} [Decidable c] {x : α} {ex : Exc} : gate c x ≠ .exc ex := by
  unfold gate; split <;> exact fun h => nomatch h
theorem gate_inv {α : Type} {c : Prop} [Decidable c] {x z : α} (h : gate c x = .ok z) : c ∧ x = z := by
  unfold gate at h
  split at h
  · rename_i k; exact ⟨k, Res.ok.inj h⟩
  · cases h
theorem o2_I {K : Fg} (C : Int → Int → Prop) [∀ x y, Decidable (C x y)] (g : Int → Int → Int) : Op2 K (rI C fun i j => .int (g i j)) tInt tInt tInt (fun (x y : Int) => gate (C x y) (g x y)) := fun H Hv v w (x : Int) (y : Int) Q vw r1 r2 (z : Int) e q => by
  have e' : gate (C x y) (g x y) = .ok z := e
  obtain ⟨c, h⟩ := gate_inv e'
  subst h
  exact ⟨x, y, r1, r2, c, q _ H Hv (Grow.refl vw) rfl⟩
instance {x y : Int} : Decidable (CMul x y) := by unfold CMul; infer_instance
instance {x y : Int} : Decidable (CDiv x y) := by unfold CDiv; infer_instance
def mulR (x y : Int) : Res Int := gate (CMul x y) (x * y)
def divR (x y : Int) : Res Int := gate (CDiv x y) (x / y)
def modR (x y : Int) : Res Int := gate (0 < y) (x % y)
theorem mulR_exc (x y : Int) (ex : Exc) : mulR x y ≠ .exc ex := gate_exc
theorem divR_exc (x y : Int) (ex : Exc) : divR x y ≠ .exc ex := gate_exc
theorem modR_exc (x y : Int) (ex : Exc) : modR x y ≠ .exc ex := gate_exc

section
variable {B : Bd} {G : List Slot} {e a b c : Expr} {τ σ ρ : Ty} {κ : Kd} {pos : Pos}
theorem noexc {α β γ : Type} {g : α → β → γ} : ∀ (x : α) (y : β) (ex : Exc), Res.ok (g x y) ≠ .exc ex := fun _ _ _ h => nomatch h
theorem pj_add {ma mb : Res Int} (ha : PJ B G a tInt ma) (hb : PJ B G b tInt mb) : PJ B G (.BinOp a .Add b pos) tInt (ma.bind fun x => mb.bind fun y => .ok (x + y)) := pj_op (fun _ _ => op_add) o2_I0 noexc ha hb
theorem pj_sub {ma mb : Res Int} (ha : PJ B G a tInt ma) (hb : PJ B G b tInt mb) : PJ B G (.BinOp a .Sub b pos) tInt (ma.bind fun x => mb.bind fun y => .ok (x - y)) := pj_op (fun _ _ => op_sub) o2_I0 noexc ha hb
theorem pj_mul {ma mb : Res Int} (ha : PJ B G a tInt ma) (hb : PJ B G b tInt mb) : PJ B G (.BinOp a .Mult b pos) tInt (ma.bind fun x => mb.bind fun y => mulR x y) := pj_op (fun _ _ => op_mul) (o2_I CMul fun i j => i * j) mulR_exc ha hb
theorem pj_div {ma mb : Res Int} (ha : PJ B G a tInt ma) (hb : PJ B G b tInt mb) : PJ B G (.BinOp a .FloorDiv b pos) tInt (ma.bind fun x => mb.bind fun y => divR x y) := pj_op (fun _ _ => op_fdiv) (o2_I CDiv fun i j => i / j) divR_exc ha hb
theorem pj_mod {ma mb : Res Int} (ha : PJ B G a tInt ma) (hb : PJ B G b tInt mb) : PJ B G (.BinOp a .Mod b pos) tInt (ma.bind fun x => mb.bind fun y => modR x y) := pj_op (fun _ _ => op_mod) (o2_I (fun _ j => 0 < j) fun i j => i % j) modR_exc ha hb
theorem pj_neg {ma : Res Int} (ha : PJ B G a tInt ma) : PJ B G (.UnaryOp .USub a pos) tInt (ma.bind fun x => .ok (-x)) := by
  obtain ⟨t, h1, h2⟩ := ha
  refine ⟨fun W => tUn _ (t W), fun X W ok tk => pe_un un_neg (h1 X W ok tk), fun W xok st H Hv Q v ve xw q => h2 W xok st H Hv _ v ve xw (Res.wp_mono (Res.wp_bind.mp q) fun x k u H' Hv' g r => ?_)⟩
  exact ⟨x, r, k _ H' Hv' g rfl⟩

/-! comparisons of ints: the operator's rule, the bool -/
inductive ICmp : CmpOp → (Int → Int → Bool) → Prop
  | lt : ICmp .Lt fun i j => decide (i < j)
  | le : ICmp .LtE fun i j => decide (i ≤ j)
  | gt : ICmp .Gt fun i j => decide (j < i)
  | ge : ICmp .GtE fun i j => decide (j ≤ i)
theorem ICmp.rule {op : CmpOp} {g : Int → Int → Bool} (h : ICmp op g) (X : Cx) : OpR X (compareOp op) (rI0 fun i j => .bl (g i j)) := by
  cases h
  · exact op_lt
  · exact op_le
  · exact op_gt
  · exact op_ge
theorem ICmp.nb {op : CmpOp} {g : Int → Int → Bool} (h : ICmp op g) : behindInMarks op b = false := by
  cases h <;> exact nobehind _ (by decide) (by decide)
theorem pj_icmp {op : CmpOp} {g : Int → Int → Bool} (ho : ICmp op g) {ma mb : Res Int} (ha : PJ B G a tInt ma) (hb : PJ B G b tInt mb) : PJ B G (.Compare a [op] [b] pos) tBool (ma.bind fun x => mb.bind fun y => .ok (g x y)) :=
  pj_cmp (fun X _ => ho.rule X) ho.nb o2_B0 noexc ha hb
theorem tj_icmp {op : CmpOp} {g : Int → Int → Bool} (ho : ICmp op g) {ma mb : Res Int} (ha : PJ B G a tInt ma) (hb : PJ B G b tInt mb) : TJ B G (.Compare a [op] [b] pos) (ma.bind fun x => mb.bind fun y => .ok (g x y)) :=
  tj_cmp (fun X _ => ho.rule X) ho.nb o2_B0 noexc ha hb

/-! equality of scalars -/
structure Sca (τ : Ty) where
  toV : τ.T → V
  rep : ∀ {K : Fg} {H : Hp} {v : V} {x : τ.T}, τ.rep K H v x → v = toV x
  sc : ∀ x y, scal (toV x) (toV y) = true
  inj : ∀ x y, toV x = toV y → x = y
def scaInt : Sca tInt := ⟨.int, fun h => h, fun _ _ => rfl, fun _ _ h => V.int.inj h⟩
def scaBool : Sca tBool := ⟨.bl, fun h => h, fun _ _ => rfl, fun _ _ h => V.bl.inj h⟩
def scaStr : Sca tStr := ⟨.str, fun h => h.1, fun _ _ => rfl, fun _ _ h => V.str.inj h⟩
inductive EqOp : CmpOp → Bool → Prop
  | eq : EqOp .Eq true
  | ne : EqOp .NotEq false
theorem EqOp.nb {op : CmpOp} {k : Bool} (h : EqOp op k) : behindInMarks op b = false := by
  cases h <;> exact nobehind _ (by decide) (by decide)
def eqb {α : Type} [DecidableEq α] (k : Bool) (x y : α) : Bool := if k then decide (x = y) else !decide (x = y)
def rEqK (k : Bool) : R2 := fun x y H Q => scal x y = true ∧ Q (.bl (if k then decide (x = y) else !decide (x = y))) H
theorem EqOp.rule {op : CmpOp} {k : Bool} (h : EqOp op k) (X : Cx) : OpR X (compareOp op) (rEqK k) := by
  cases h
  · exact op_eq
  · exact op_ne
theorem o2_eq {K : Fg} {k : Bool} [DecidableEq τ.T] (s : Sca τ) : Op2 K (rEqK k) τ τ tBool (fun x y => .ok (eqb k x y)) := fun H Hv v w x y Q vw r1 r2 z e q => by
  cases e
  have e1 := s.rep r1
  have e2 := s.rep r2
  subst e1 e2
  refine ⟨s.sc x y, ?_⟩
  have : decide (s.toV x = s.toV y) = decide (x = y) := by
    by_cases h : x = y
    · subst h; simp
    · rw [decide_eq_false h, decide_eq_false fun z => h (s.inj x y z)]
  rw [this]
  exact q _ H Hv (Grow.refl vw) rfl
theorem pj_eqs {op : CmpOp} {k : Bool} (ho : EqOp op k) [DecidableEq τ.T] (s : Sca τ) {ma mb : Res τ.T} (ha : PJ B G a τ ma) (hb : PJ B G b τ mb) : PJ B G (.Compare a [op] [b] pos) tBool (ma.bind fun x => mb.bind fun y => .ok (eqb k x y)) :=
  pj_cmp (fun X _ => ho.rule X) ho.nb (o2_eq s) noexc ha hb
theorem tj_eqs {op : CmpOp} {k : Bool} (ho : EqOp op k) [DecidableEq τ.T] (s : Sca τ) {ma mb : Res τ.T} (ha : PJ B G a τ ma) (hb : PJ B G b τ mb) : TJ B G (.Compare a [op] [b] pos) (ma.bind fun x => mb.bind fun y => .ok (eqb k x y)) :=
  tj_cmp (fun X _ => ho.rule X) ho.nb (o2_eq s) noexc ha hb

/-! equality of data at any depth -/
structure Deq (τ : Ty) where
  d : τ.T → PyData
  dec : DecidableEq τ.T
  dp : ∀ {K : Fg} {H : Hp} {v : V} {x : τ.T}, τ.rep K H v x → Dp K H v (d x) ∧ SeqAt.shaped (d x) = true
  eqv : ∀ x y, PyData.eqv (d x) (d y) = @decide (x = y) (dec x y)
def rEqDK (K : Fg) (k : Bool) : R2 := fun x y H Q => ∃ d e, Dp K H x d ∧ Dp K H y e ∧ SeqAt.shaped d = true ∧ SeqAt.shaped e = true ∧ Q (.bl (if k then PyData.eqv d e else !PyData.eqv d e)) H
theorem room64 {k : Nat} {A : Around} (r : Room k A) : A.units + 65 < cLine := by
  have := r.un
  omega
theorem EqOp.ruleD {op : CmpOp} {k : Bool} (h : EqOp op k) {X : Cx} (ok : CxOk B X) (hcalm : B.calm = true) : OpR X (compareOp op) (rEqDK B.K k) := by
  have hu := room64 (ok.room hcalm)
  cases h
  · have := op_eqD (X := X) (by omega); rw [ok.K] at this; exact this
  · have := op_neD (X := X) (by omega); rw [ok.K] at this; exact this
theorem eqb_any {α : Type} (i1 i2 : DecidableEq α) (k : Bool) (x y : α) : @eqb α i1 k x y = @eqb α i2 k x y := by
  have : i1 = i2 := Subsingleton.elim _ _
  rw [this]
theorem o2_eqD {K : Fg} {k : Bool} [i : DecidableEq τ.T] (s : Deq τ) : Op2 K (rEqDK K k) τ τ tBool (fun x y => .ok (eqb k x y)) := fun H Hv v w x y Q vw r1 r2 z e q => by
  cases e
  obtain ⟨d1, s1⟩ := s.dp (τ.mono vw.sub r1)
  obtain ⟨d2, s2⟩ := s.dp (τ.mono vw.sub r2)
  refine ⟨_, _, d1, d2, s1, s2, ?_⟩
  rw [s.eqv]
  exact q _ H Hv (Grow.refl vw) (congrArg V.bl (eqb_any s.dec i k x y))
theorem pj_eqd {op : CmpOp} {k : Bool} (ho : EqOp op k) [DecidableEq τ.T] (s : Deq τ) {ma mb : Res τ.T} (ha : PJ B G a τ ma) (hb : PJ B G b τ mb) (hcalm : B.calm = true := by rfl) : PJ B G (.Compare a [op] [b] pos) tBool (ma.bind fun x => mb.bind fun y => .ok (eqb k x y)) :=
  pj_cmp (fun X ok => ho.ruleD ok hcalm) ho.nb (o2_eqD s) noexc ha hb
theorem tj_eqd {op : CmpOp} {k : Bool} (ho : EqOp op k) [DecidableEq τ.T] (s : Deq τ) {ma mb : Res τ.T} (ha : PJ B G a τ ma) (hb : PJ B G b τ mb) (hcalm : B.calm = true := by rfl) : TJ B G (.Compare a [op] [b] pos) (ma.bind fun x => mb.bind fun y => .ok (eqb k x y)) :=
  tj_cmp (fun X ok => ho.ruleD ok hcalm) ho.nb (o2_eqD s) noexc ha hb

/-! ### subscripts -/
def atR {α : Type} (xs : List α) (i : Int) : Res α := match atI xs i with
  | some x => .ok x
  | none => .bad
theorem atR_exc {α : Type} {xs : List α} {i : Int} {ex : Exc} : atR xs i ≠ .exc ex := by
  unfold atR; split <;> exact fun h => nomatch h
theorem atR_inv {α : Type} {xs : List α} {i : Int} {z : α} (h : atR xs i = .ok z) : ∃ j, ixN xs.length i = some j ∧ xs[j]? = some z := by
  unfold atR at h
  split at h
  · rename_i x e
    unfold atI at e
    cases e1 : ixN xs.length i with
    | none => rw [e1] at e; cases e
    | some j =>
      rw [e1] at e
      cases h
      exact ⟨j, rfl, e⟩
  · cases h
theorem atI_of {α : Type} {xs : List α} {i : Int} {j : Nat} {z : α} (h : ixN xs.length i = some j) (e : xs[j]? = some z) : atI xs i = some z := by
  unfold atI
  rw [h]
  exact e
theorem pj_ix {r : R2} {ma : Res ρ.T} {mb : Res σ.T} {g : ρ.T → σ.T → Res τ.T} (ho : ∀ X, CxOk B X → IxR X r) (hr : Op2 B.K r ρ σ τ g) (hx : ∀ x y ex, g x y ≠ .exc ex) (hs : PlainIx b) (ha : PJ B G a ρ ma) (hb : PJ B G b σ mb) :
    PJ B G (.Subscript a b pos) τ (ma.bind fun x => mb.bind fun y => g x y) := by
  obtain ⟨ta, a1, a2⟩ := ha
  obtain ⟨tb, b1, b2⟩ := hb
  refine ⟨fun W => tOp r (ta W) (tb W), fun X W ok tk => pe_ix (ho X ok) (a1 X W ok tk) (b1 X W ok tk) hs, fun W xok st H Hv Q v ve xw q => ?_⟩
  refine two (fun H Hv Q => a2 W xok st H Hv Q) (fun H Hv Q => b2 W xok st H Hv Q) v ve xw q fun x y v w H' Hv' q' g' r1 r2 => ?_
  cases e : g x y with
  | ok z =>
    rw [e] at q'
    exact hr H' Hv' v w x y Q g'.view r1 r2 z e fun u H2 Hv2 g2 r3 => q' u H2 Hv2 (g'.trans g2) r3
  | exc ex => exact (hx x y ex e).elim
  | bad =>
    rw [e] at q'
    exact q'.elim
theorem o2_ixL {K : Fg} : Op2 K (rIxL K) (tList τ) tInt τ (fun xs i => atR xs i) := fun H Hv v w x y Q vw r1 r2 z e q => by
  obtain ⟨p, vs, rfl, h2, h3, h4⟩ := r1
  obtain ⟨j, e1, e2⟩ := atR_inv e
  obtain ⟨u, e3, r3⟩ := paired_get h4 e2
  have hl := paired_len h4
  exact ⟨p, vs, y, u, rfl, r2, SqL.of (vw.sub _ _ h2), atI_of (by rw [hl]; exact e1) e3, q u H Hv (Grow.refl vw) r3⟩
theorem o2_ixT {K : Fg} : Op2 K (rIxT K) (tTup τ) tInt τ (fun xs i => atR xs i) := fun H Hv v w x y Q vw r1 r2 z e q => by
  obtain ⟨p, vs, rfl, h2, h3, h4⟩ := r1
  obtain ⟨j, e1, e2⟩ := atR_inv e
  obtain ⟨u, e3, r3⟩ := paired_get h4 e2
  have hl := paired_len h4
  exact ⟨p, vs, y, u, rfl, r2, sqT_mono vw.sub h2, atI_of (by rw [hl]; exact e1) e3, q u H Hv (Grow.refl vw) r3⟩
def rIxSq (K : Fg) : R2 := fun x y H Q => rIxL K x y H Q ∨ rIxT K x y H Q
theorem o2_ixS {K : Fg} : Op2 K (rIxSq K) (tSeq τ) tInt τ (fun xs i => atR xs i) := fun H Hv v w x y Q vw r1 r2 z e q => by
  rcases r1 with r1 | r1
  · exact .inl (o2_ixL H Hv v w x y Q vw r1 r2 z e q)
  · exact .inr (o2_ixT H Hv v w x y Q vw r1 r2 z e q)
theorem pj_ixL {ma : Res (List τ.T)} {mb : Res Int} (hs : PlainIx b) (ha : PJ B G a (tList τ) ma) (hb : PJ B G b tInt mb) : PJ B G (.Subscript a b pos) τ (ma.bind fun x => mb.bind fun y => atR x y) :=
  pj_ix (fun X ok => by have h := ix_list (X := X); rw [ok.K] at h; exact h) o2_ixL (fun _ _ _ => atR_exc) hs ha hb
theorem pj_ixT {ma : Res (List τ.T)} {mb : Res Int} (hs : PlainIx b) (ha : PJ B G a (tTup τ) ma) (hb : PJ B G b tInt mb) : PJ B G (.Subscript a b pos) τ (ma.bind fun x => mb.bind fun y => atR x y) :=
  pj_ix (fun X ok => by have h := ix_tup (X := X); rw [ok.K] at h; exact h) o2_ixT (fun _ _ _ => atR_exc) hs ha hb
theorem pj_ixS {ma : Res (List τ.T)} {mb : Res Int} (hs : PlainIx b) (ha : PJ B G a (tSeq τ) ma) (hb : PJ B G b tInt mb) : PJ B G (.Subscript a b pos) τ (ma.bind fun x => mb.bind fun y => atR x y) :=
  pj_ix (fun X ok => IxR.or (by have h := ix_list (X := X); rw [ok.K] at h; exact h) (by have h := ix_tup (X := X); rw [ok.K] at h; exact h)) o2_ixS (fun _ _ _ => atR_exc) hs ha hb
/-- a written place of a pair, of a triple -/
theorem pj_fst {ma : Res (σ.T × τ.T)} {j p} (ha : PJ B G a (tT2 σ τ) ma) : PJ B G (.Subscript a (.Constant (.int 0) j p) pos) σ (ma.bind fun x => .ok x.1) :=
  (pj_ix (ρ := tT2 σ τ) (σ := tInt) (g := fun (x : σ.T × τ.T) (y : Int) => if y = 0 then Res.ok x.1 else Res.bad) (fun X ok => by have h := ix_tup (X := X); rw [ok.K] at h; exact h) (fun H Hv v w x (y : Int) Q vw r1 r2 z e q => by
    obtain ⟨p, u1, u2, rfl, h2, h3, h4⟩ := r1
    have e' : (if (y : Int) = (0 : Int) then Res.ok x.1 else Res.bad) = Res.ok z := e
    by_cases h : (y : Int) = (0 : Int)
    · subst h
      cases e
      exact ⟨p, _, 0, u1, rfl, r2, sqT_mono vw.sub h2, rfl, q u1 H Hv (Grow.refl vw) h3⟩
    · rw [if_neg h] at e'; cases e') (fun x y ex h => by split at h <;> cases h) (fun _ _ => rfl) ha (pj_int (i := 0))).cast (by cases ma <;> rfl)
theorem pj_snd {ma : Res (σ.T × τ.T)} {j p} (ha : PJ B G a (tT2 σ τ) ma) : PJ B G (.Subscript a (.Constant (.int 1) j p) pos) τ (ma.bind fun x => .ok x.2) :=
  (pj_ix (ρ := tT2 σ τ) (σ := tInt) (g := fun (x : σ.T × τ.T) (y : Int) => if y = 1 then Res.ok x.2 else Res.bad) (fun X ok => by have h := ix_tup (X := X); rw [ok.K] at h; exact h) (fun H Hv v w x (y : Int) Q vw r1 r2 z e q => by
    obtain ⟨p, u1, u2, rfl, h2, h3, h4⟩ := r1
    have e' : (if (y : Int) = (1 : Int) then Res.ok x.2 else Res.bad) = Res.ok z := e
    by_cases h : (y : Int) = (1 : Int)
    · subst h
      cases e
      exact ⟨p, _, 1, u2, rfl, r2, sqT_mono vw.sub h2, rfl, q u2 H Hv (Grow.refl vw) h4⟩
    · rw [if_neg h] at e'; cases e') (fun x y ex h => by split at h <;> cases h) (fun _ _ => rfl) ha (pj_int (i := 1))).cast (by cases ma <;> rfl)

/-! ### bools -/
theorem pj_not {ma : Res Bool} (ha : PJ B G a tBool ma) : PJ B G (.UnaryOp .Not a pos) tBool (ma.bind fun x => .ok (!x)) := by
  obtain ⟨t, h1, h2⟩ := ha
  refine ⟨fun W => tNotV (t W), fun X W ok tk => pe_not (h1 X W ok tk), fun W xok st H Hv Q v ve xw q => h2 W xok st H Hv _ v ve xw (Res.wp_mono (Res.wp_bind.mp q) fun x k u H' Hv' g r => ?_)⟩
  exact ⟨x, r, k _ H' Hv' g rfl⟩
theorem pj_one {op} {ma : Res τ.T} (ha : PJ B G a τ ma) : PJ B G (.BoolOp op [a] pos) τ ma := by
  obtain ⟨t, h1, h2⟩ := ha
  exact ⟨t, fun X W ok tk => pe_one (h1 X W ok tk), h2⟩
theorem pj_and {rest : List Expr} {ma mb : Res Bool} (ha : PJ B G a tBool ma) (hb : PJ B G (.BoolOp .And (b :: rest) pos) tBool mb) : PJ B G (.BoolOp .And (a :: b :: rest) pos) tBool (ma.bind fun x => if x = true then mb else .ok false) := by
  obtain ⟨ta, a1, a2⟩ := ha
  obtain ⟨tb, b1, b2⟩ := hb
  refine ⟨fun W => tAndV (ta W) (tb W), fun X W ok tk => pe_and (a1 X W ok tk) (b1 X W ok tk), fun W xok st H Hv Q v ve xw q => a2 W xok st H Hv _ v ve xw (Res.wp_mono (Res.wp_bind.mp q) fun x k u H' Hv' g r => ?_)⟩
  refine ⟨x, r, ?_⟩
  cases x with
  | true => exact b2 W xok st H' Hv' Q g.view (ve.mono g.up) (xw.mono g.same) (Res.wp_mono k fun y k' u H2 Hv2 g2 r2 => k' u H2 Hv2 (g.trans g2) r2)
  | false => exact k _ H' Hv' g rfl
theorem pj_or {rest : List Expr} {ma mb : Res Bool} (ha : PJ B G a tBool ma) (hb : PJ B G (.BoolOp .Or (b :: rest) pos) tBool mb) : PJ B G (.BoolOp .Or (a :: b :: rest) pos) tBool (ma.bind fun x => if x = true then .ok true else mb) := by
  obtain ⟨ta, a1, a2⟩ := ha
  obtain ⟨tb, b1, b2⟩ := hb
  refine ⟨fun W => tOrV (ta W) (tb W), fun X W ok tk => pe_or (a1 X W ok tk) (b1 X W ok tk), fun W xok st H Hv Q v ve xw q => a2 W xok st H Hv _ v ve xw (Res.wp_mono (Res.wp_bind.mp q) fun x k u H' Hv' g r => ?_)⟩
  refine ⟨x, r, ?_⟩
  cases x with
  | false => exact b2 W xok st H' Hv' Q g.view (ve.mono g.up) (xw.mono g.same) (Res.wp_mono k fun y k' u H2 Hv2 g2 r2 => k' u H2 Hv2 (g.trans g2) r2)
  | true => exact k _ H' Hv' g rfl
theorem tj_wj {m : Res Bool} (h : WJ B G e m) : TJ B G e m := by
  obtain ⟨t, h1, h2⟩ := h
  exact ⟨t, fun X W ok tk => (h1 X W ok tk).pt, h2⟩
theorem tj_val {m : Res Bool} (h : PJ B G e tBool m) (he : ∀ env whole, isTrue e env whole = (do let v ← whole; standAt e.pos; holding [v] (truthy v)) := by intro _ _; rfl) : TJ B G e m := by
  obtain ⟨t, h1, h2⟩ := h
  refine ⟨fun W => tB (t W), fun X W ok tk => pt_val (h1 X W ok tk) (he X.env), fun W xok st H Hv Q v ve xw q => h2 W xok st H Hv _ v ve xw (Res.wp_mono q fun x k u H' Hv' g r => ⟨x, r, k H' Hv' g⟩)⟩
theorem tj_not {m : Res Bool} (h : TJ B G a m) : TJ B G (.UnaryOp .Not a pos) (m.bind fun x => .ok (!x)) := by
  obtain ⟨t, h1, h2⟩ := h
  exact ⟨fun W => tNot (t W), fun X W ok tk => pt_not (h1 X W ok tk), fun W xok st H Hv Q v ve xw q => h2 W xok st H Hv _ v ve xw (Res.wp_mono (Res.wp_bind.mp q) fun x k H' Hv' g => k H' Hv' g)⟩
theorem wj_and1 {m : Res Bool} (h : TJ B G a m) : WJ B G (.BoolOp .And [a] pos) m := by
  obtain ⟨t, h1, h2⟩ := h
  exact ⟨t, fun X W ok tk => pw_and1 (h1 X W ok tk), h2⟩
theorem wj_or1 {m : Res Bool} (h : TJ B G a m) : WJ B G (.BoolOp .Or [a] pos) m := by
  obtain ⟨t, h1, h2⟩ := h
  exact ⟨t, fun X W ok tk => pw_or1 (h1 X W ok tk), h2⟩
theorem wj_and {rest : List Expr} {ma mb : Res Bool} (ha : TJ B G a ma) (hb : WJ B G (.BoolOp .And (b :: rest) pos) mb) : WJ B G (.BoolOp .And (a :: b :: rest) pos) (ma.bind fun x => if x = true then mb else .ok false) := by
  obtain ⟨ta, a1, a2⟩ := ha
  obtain ⟨tb, b1, b2⟩ := hb
  refine ⟨fun W => tAnd (ta W) (tb W), fun X W ok tk => pw_and (a1 X W ok tk) (b1 X W ok tk), fun W xok st H Hv Q v ve xw q => a2 W xok st H Hv _ v ve xw (Res.wp_mono (Res.wp_bind.mp q) fun x k H' Hv' g => ?_)⟩
  cases x with
  | true => exact b2 W xok st H' Hv' Q g.view (ve.mono g.up) (xw.mono g.same) (Res.wp_mono k fun y k' H2 Hv2 g2 => k' H2 Hv2 (g.trans g2))
  | false => exact k H' Hv' g
theorem wj_or {rest : List Expr} {ma mb : Res Bool} (ha : TJ B G a ma) (hb : WJ B G (.BoolOp .Or (b :: rest) pos) mb) : WJ B G (.BoolOp .Or (a :: b :: rest) pos) (ma.bind fun x => if x = true then .ok true else mb) := by
  obtain ⟨ta, a1, a2⟩ := ha
  obtain ⟨tb, b1, b2⟩ := hb
  refine ⟨fun W => tOr (ta W) (tb W), fun X W ok tk => pw_or (a1 X W ok tk) (b1 X W ok tk), fun W xok st H Hv Q v ve xw q => a2 W xok st H Hv _ v ve xw (Res.wp_mono (Res.wp_bind.mp q) fun x k H' Hv' g => ?_)⟩
  cases x with
  | false => exact b2 W xok st H' Hv' Q g.view (ve.mono g.up) (xw.mono g.same) (Res.wp_mono k fun y k' H2 Hv2 g2 => k' H2 Hv2 (g.trans g2))
  | true => exact k H' Hv' g
theorem pj_if {mc : Res Bool} {ma mb : Res τ.T} (hc : TJ B G c mc) (ha : PJ B G a τ ma) (hb : PJ B G b τ mb) : PJ B G (.IfExp c a b pos) τ (mc.bind fun x => if x = true then ma else mb) := by
  obtain ⟨tc, c1, c2⟩ := hc
  obtain ⟨ta, a1, a2⟩ := ha
  obtain ⟨tb, b1, b2⟩ := hb
  refine ⟨fun W => tIf (tc W) (ta W) (tb W), fun X W ok tk => pe_ifExp (c1 X W ok tk) (a1 X W ok tk) (b1 X W ok tk), fun W xok st H Hv Q v ve xw q => c2 W xok st H Hv _ v ve xw (Res.wp_mono (Res.wp_bind.mp q) fun x k H' Hv' g => ?_)⟩
  cases x with
  | true => exact a2 W xok st H' Hv' Q g.view (ve.mono g.up) (xw.mono g.same) (Res.wp_mono k fun y k' u H2 Hv2 g2 r2 => k' u H2 Hv2 (g.trans g2) r2)
  | false => exact b2 W xok st H' Hv' Q g.view (ve.mono g.up) (xw.mono g.same) (Res.wp_mono k fun y k' u H2 Hv2 g2 r2 => k' u H2 Hv2 (g.trans g2) r2)
/-- is None, is not None -/
theorem pj_isN {ma : Res (Option τ.T)} {j p} (ha : PJ B G a (tOpt τ) ma) : PJ B G (.Compare a [.Is] [.Constant .none j p] pos) tBool (ma.bind fun x => .ok x.isNone) :=
  (pj_cmp (σ := tNone) (g := fun (x : Option τ.T) _ => .ok x.isNone) (r := fun x y H Q => y = .non ∧ Q (.bl (decide (x = .non))) H) (fun X ok => op_isN) (nobehind _ (by decide) (by decide)) (fun H Hv v w x y Q vw r1 r2 z e q => by
    cases e
    refine ⟨r2, ?_⟩
    cases x with
    | none =>
      obtain rfl : v = .non := r1
      exact q _ H Hv (Grow.refl vw) rfl
    | some x => exact q _ H Hv (Grow.refl vw) (by rw [decide_eq_false r1.1]; rfl)) (fun _ _ _ h => by cases h) ha pj_none).cast (by cases ma <;> rfl)
theorem pj_notN {ma : Res (Option τ.T)} {j p} (ha : PJ B G a (tOpt τ) ma) : PJ B G (.Compare a [.IsNot] [.Constant .none j p] pos) tBool (ma.bind fun x => .ok x.isSome) :=
  (pj_cmp (σ := tNone) (g := fun (x : Option τ.T) _ => .ok x.isSome) (r := fun x y H Q => y = .non ∧ Q (.bl (!decide (x = .non))) H) (fun X ok => op_notN) (nobehind _ (by decide) (by decide)) (fun H Hv v w x y Q vw r1 r2 z e q => by
    cases e
    refine ⟨r2, ?_⟩
    cases x with
    | none =>
      obtain rfl : v = .non := r1
      exact q _ H Hv (Grow.refl vw) rfl
    | some x => exact q _ H Hv (Grow.refl vw) (by rw [decide_eq_false r1.1]; rfl)) (fun _ _ _ h => by cases h) ha pj_none).cast (by cases ma <;> rfl)
end
end TM

set_option Elab.async false
set_option linter.all false
set_option maxRecDepth 100000
/-! TM4: slots that own what they hold; statements. -/
namespace TM
open PySem L2

structure Fr where
  H0 : Hp
  V0 : Hp
  S0 : List Addr
structure Own (f : Fr) (A : List Addr) (H Hs : Hp) : Prop where
  nodup : A.Nodup
  orig : ∀ a ∈ A, a ∈ f.S0 ∨ f.H0 a = none
  live : ∀ a ∈ A, ∃ o, H a = some o ∧ Mut (some o)
  view : View H Hs
  sep : ∀ a ∈ A, Hs a = none
  grow : Same f.V0 Hs
  fresh : ∀ a o, Hs a = some o → f.V0 a = some o ∨ f.H0 a = none ∨ a ∈ f.S0
  pres : ∀ a o, f.H0 a = some o → a ∉ f.S0 → H a = some o
  dom : ∀ a o, f.H0 a = some o → ∃ o', H a = some o'
section
variable {f : Fr} {A A' S : List Addr} {H Hs H' Hs' : Hp}
theorem Own.less (h : Own f A H Hs) (nd : A'.Nodup) (k : ∀ a ∈ A', a ∈ A) : Own f A' H Hs :=
  ⟨nd, fun a m => h.orig a (k a m), fun a m => h.live a (k a m), h.view, fun a m => h.sep a (k a m), h.grow, h.fresh, h.pres, h.dom⟩
theorem Own.free0 (h : Own f A H Hs) {a : Addr} (e : H a = none) : f.H0 a = none := by
  cases q : f.H0 a with
  | none => rfl
  | some o =>
    obtain ⟨o', e'⟩ := h.dom a o q
    rw [e] at e'; cases e'
theorem Own.grown (h : Own f A H Hs) (g : Grow H Hs H' Hs') : Own f A H' Hs' where
  nodup := h.nodup
  orig := h.orig
  live := fun a m => let ⟨o, e, k⟩ := h.live a m; ⟨o, g.same a o e, k⟩
  view := g.view
  sep := fun a m => by
    cases q : Hs' a with
    | none => rfl
    | some o =>
      obtain ⟨o2, e2, _⟩ := h.live a m
      rcases g.fresh a o q with z | z
      · rw [h.sep a m] at z; cases z
      · rw [e2] at z; cases z
  grow := h.grow.trans g.up
  fresh := fun a o e => by
    rcases g.fresh a o e with z | z
    · exact h.fresh a o z
    · exact .inr (.inl (h.free0 z))
  pres := fun a o e m => g.same a o (h.pres a o e m)
  dom := fun a o e => let ⟨o', q⟩ := h.dom a o e; ⟨o', g.same a o' q⟩
/-- behind something new of one's own -/
theorem Own.push (h : Own f A H Hs) (g : Grow H Hs H' Hs') (fr : Fresh S H H' Hs') : Own f (S ++ A) H' Hs' := by
  have h1 := h.grown g
  refine ⟨List.nodup_append.mpr ⟨fr.nodup, h.nodup, fun a ha b hb e => ?_⟩, fun a m => ?_, fun a m => ?_, h1.view, fun a m => ?_, h1.grow, h1.fresh, h1.pres, h1.dom⟩
  · subst e
    obtain ⟨o, e, _⟩ := h.live a hb
    rw [fr.new a ha] at e; cases e
  · rcases List.mem_append.mp m with m | m
    · exact .inr (h.free0 (fr.new a m))
    · exact h.orig a m
  · rcases List.mem_append.mp m with m | m
    · exact fr.live a m
    · exact h1.live a m
  · rcases List.mem_append.mp m with m | m
    · exact fr.sep a m
    · exact h1.sep a m
/-- an own object is changed -/
theorem Own.write {p : Addr} {o : HO} (h : Own f A H Hs) (m : p ∈ A) (mu : Mut (some o)) : Own f A (upd H p o) Hs where
  nodup := h.nodup
  orig := h.orig
  live := fun a ha => by
    by_cases q : a = p
    · subst q; exact ⟨o, upd_same, mu⟩
    · obtain ⟨u, e, k⟩ := h.live a ha
      exact ⟨u, by rw [upd_ne q]; exact e, k⟩
  view := ⟨fun a u e => by
    have : a ≠ p := fun q => by subst q; rw [h.sep a m] at e; cases e
    rw [upd_ne this]; exact h.view.sub a u e, fun a u e n => by
    by_cases q : a = p
    · subst q; rw [upd_same] at e; cases e; exact (n mu).elim
    · rw [upd_ne q] at e; exact h.view.imm a u e n⟩
  sep := h.sep
  grow := h.grow
  fresh := h.fresh
  pres := fun a u e n => by
    have : a ≠ p := fun q => by
      subst q
      rcases h.orig a m with z | z
      · exact n z
      · rw [z] at e; cases e
    rw [upd_ne this]; exact h.pres a u e n
  dom := fun a u e => by
    by_cases q : a = p
    · subst q; exact ⟨o, upd_same⟩
    · rw [upd_ne q]; exact h.dom a u e
/-- own objects are let go into the view -/
theorem Own.let (h : Own f (S ++ A) H Hs) : Own f A H (fun a => if a ∈ S then H a else Hs a) := by
  have nd := List.nodup_append.mp h.nodup
  refine ⟨nd.2.1, fun a m => h.orig a (List.mem_append_right _ m), fun a m => h.live a (List.mem_append_right _ m), ⟨fun a o e => ?_, fun a o e n => ?_⟩, fun a m => ?_, fun a o e => ?_, fun a o e => ?_, h.pres, h.dom⟩
  · by_cases q : a ∈ S
    · simpa [q] using e
    · exact h.view.sub a o (by simpa [q] using e)
  · by_cases q : a ∈ S
    · simpa [q] using e
    · simpa [q] using h.view.imm a o e n
  · have q : a ∉ S := fun q => nd.2.2 a q a m rfl
    simpa [q] using h.sep a (List.mem_append_right _ m)
  · have h1 := h.grow a o e
    have q : a ∉ S := fun q => by rw [h.sep a (List.mem_append_left _ q)] at h1; cases h1
    simpa [q] using h1
  · by_cases q : a ∈ S
    · rcases h.orig a (List.mem_append_left _ q) with z | z
      · exact .inr (.inr z)
      · exact .inr (.inl z)
    · exact h.fresh a o (by simpa [q] using e)
end

/-! ### the slots -/
def SlotOk (K : Fg) (H Hs : Hp) (S : List Addr) (ov : Option V) (s : Slot) : Prop := match s with
  | none => S = []
  | some p => ∃ v, ov = some v ∧ p.κ.rep K S H Hs v p.x
theorem SlotOk.keep {K : Fg} {H Hs H' Hs' : Hp} {S : List Addr} {ov : Option V} {s : Slot} (h : SlotOk K H Hs S ov s) (k : ∀ a ∈ S, ∀ o, H a = some o → H' a = some o) (e : Same Hs Hs') : SlotOk K H' Hs' S ov s := by
  cases s with
  | none => exact h
  | some p =>
    obtain ⟨v, e1, r⟩ := h
    exact ⟨v, e1, p.κ.keep r k e⟩
abbrev Sls (K : Fg) (H Hs : Hp) (SG : List (List Addr)) (σ : List (Option V)) (G : List Slot) : Prop := Els (SlotOk K H Hs) SG σ G
theorem Sls.keep {K : Fg} {H Hs H' Hs' : Hp} {SG : List (List Addr)} {σ : List (Option V)} {G : List Slot} (h : Sls K H Hs SG σ G) (k : ∀ a ∈ SG.flatten, ∀ o, H a = some o → H' a = some o) (e : Same Hs Hs') : Sls K H' Hs' SG σ G :=
  Els.imp h fun S v x hm r => r.keep (fun a ha o ho => k a (List.mem_flatten.mpr ⟨S, hm, ha⟩) o ho) e
/-- the state: the slots G, the temporary values D -/
def Env (K : Fg) (f : Fr) (G D : List Slot) (σ : St) (vs : List V) (H Hs : Hp) : Prop := ∃ SG SD, Sls K H Hs SG σ G ∧ Sls K H Hs SD (vs.map some) D ∧ Own f (SD.flatten ++ SG.flatten) H Hs
section
variable {K : Fg} {f : Fr} {G D : List Slot} {σ : St} {vs : List V} {H Hs H' Hs' : Hp}
theorem Env.view (h : Env K f G D σ vs H Hs) : View H Hs := let ⟨_, _, _, _, o⟩ := h; o.view
theorem Env.pres (h : Env K f G D σ vs H Hs) : ∀ a o, f.H0 a = some o → a ∉ f.S0 → H a = some o := let ⟨_, _, _, _, o⟩ := h; o.pres
theorem Env.grown (h : Env K f G D σ vs H Hs) (g : Grow H Hs H' Hs') : Env K f G D σ vs H' Hs' := by
  obtain ⟨SG, SD, a, b, o⟩ := h
  exact ⟨SG, SD, a.keep (fun c _ u e => g.same c u e) g.up, b.keep (fun c _ u e => g.same c u e) g.up, o.grown g⟩
theorem Env.push {κ : Kd} {x : κ.ty.T} {v : V} {S : List Addr} (h : Env K f G D σ vs H Hs) (g : Grow H Hs H' Hs') (r : κ.rep K S H' Hs' v x) (fr : Fresh S H H' Hs') : Env K f G (some ⟨κ, x⟩ :: D) σ (v :: vs) H' Hs' := by
  obtain ⟨SG, SD, a, b, o⟩ := h
  refine ⟨SG, S :: SD, a.keep (fun c _ u e => g.same c u e) g.up, ⟨⟨v, rfl, r⟩, b.keep (fun c _ u e => g.same c u e) g.up⟩, ?_⟩
  rw [List.flatten_cons, List.append_assoc]
  exact o.push g fr
theorem Env.pop {s : Slot} {v : V} (h : Env K f G (s :: D) σ (v :: vs) H Hs) : Env K f G D σ vs H Hs := by
  obtain ⟨SG, SD, a, b, o⟩ := h
  cases SD with
  | nil => exact b.elim
  | cons S SD =>
    refine ⟨SG, SD, a, b.2, o.less ?_ fun c m => ?_⟩
    · have := o.nodup
      rw [List.flatten_cons, List.append_assoc] at this
      exact (List.nodup_append.mp this).2.1
    · rw [List.flatten_cons, List.append_assoc]
      exact List.mem_append_right _ m
/-- what is seen of the stable slots, of all slots -/
theorem Env.vstab (h : Env K f G D σ vs H Hs) : VEnv K Hs (stab G) σ := by
  obtain ⟨SG, SD, a, _, _⟩ := h
  refine ⟨by rw [a.len.2]; unfold stab; rw [List.length_map], fun i p hi => ?_⟩
  unfold stab at hi
  rw [List.getElem?_map] at hi
  cases e : G[i]? with
  | none => rw [e] at hi; cases hi
  | some s =>
    rw [e] at hi
    cases s with
    | none => cases hi
    | some q =>
      have hi' : (if q.κ.st = true then some q else none) = some p := Option.some.inj hi
      by_cases hs : q.κ.st = true
      · rw [if_pos hs] at hi'
        cases hi'
        obtain ⟨S, ov, _, e2, v, e3, r⟩ := a.get e
        exact ⟨v, by rw [e2, e3], (p.κ.stab hs r).2⟩
      · rw [if_neg hs] at hi'; cases hi'
theorem Env.vall (h : Env K f G D σ vs H Hs) : VEnv K H G σ := by
  obtain ⟨SG, SD, a, _, o⟩ := h
  refine ⟨a.len.2, fun i p hi => ?_⟩
  obtain ⟨S, ov, _, e2, v, e3, r⟩ := a.get hi
  exact ⟨v, by rw [e2, e3], p.κ.thaw r o.view.sub fun _ _ _ e => e⟩
/-- the slots may be forgotten, let go -/
inductive Wk : List Slot → List Slot → Prop
  | nil : Wk [] []
  | keep {s G G'} : Wk G G' → Wk (s :: G) (s :: G')
  | drop {s G G'} : Wk G G' → Wk (s :: G) (none :: G')
  | «let» {κ : Kd} {x : κ.ty.T} {G G'} : Wk G G' → Wk (some ⟨κ, x⟩ :: G) (some ⟨kVal κ.ty, x⟩ :: G')
theorem Wk.refl : ∀ G : List Slot, Wk G G
  | [] => .nil
  | _ :: G => .keep (Wk.refl G)
end
theorem wk_aux {K : Fg} {f : Fr} {H : Hp} : ∀ {G G' : List Slot}, Wk G G' → ∀ {σ : List (Option V)} {SG : List (List Addr)} {A : List Addr} {Hs : Hp}, Sls K H Hs SG σ G → Own f (A ++ SG.flatten) H Hs →
    ∃ SG' Hs', Sls K H Hs' SG' σ G' ∧ Own f (A ++ SG'.flatten) H Hs' ∧ Same Hs Hs'
  | _, _, .nil, σ, SG, A, Hs, a, o => ⟨SG, Hs, a, o, Same.refl Hs⟩
  | _, _, .keep (s := s) w, σ, SG, A, Hs, a, o => by
    cases SG with
    | nil => cases σ <;> exact a.elim
    | cons S SG =>
      cases σ with
      | nil => exact a.elim
      | cons v σ =>
        rw [List.flatten_cons, ← List.append_assoc] at o
        obtain ⟨SG', Hs', a', o', e⟩ := wk_aux w a.2 o
        refine ⟨S :: SG', Hs', ⟨a.1.keep (fun _ _ _ h => h) e, a'⟩, ?_, e⟩
        rw [List.flatten_cons, ← List.append_assoc]
        exact o'
  | _, _, .drop w, σ, SG, A, Hs, a, o => by
    cases SG with
    | nil => cases σ <;> exact a.elim
    | cons S SG =>
      cases σ with
      | nil => exact a.elim
      | cons v σ =>
        have o1 : Own f (A ++ SG.flatten) H Hs := o.less (by
          have nd := o.nodup
          rw [List.flatten_cons] at nd
          have h1 := List.nodup_append.mp nd
          have h2 := List.nodup_append.mp h1.2.1
          exact List.nodup_append.mpr ⟨h1.1, h2.2.1, fun x hx y hy => h1.2.2 x hx y (List.mem_append_right _ hy)⟩) fun c m => by
            rw [List.flatten_cons]
            rcases List.mem_append.mp m with m | m
            · exact List.mem_append_left _ m
            · exact List.mem_append_right _ (List.mem_append_right _ m)
        obtain ⟨SG', Hs', a', o', e⟩ := wk_aux w a.2 o1
        exact ⟨[] :: SG', Hs', ⟨rfl, a'⟩, by rw [List.flatten_cons]; exact o', e⟩
  | _, _, .let (κ := κ) (x := x) w, σ, SG, A, Hs, a, o => by
    cases SG with
    | nil => cases σ <;> exact a.elim
    | cons S SG =>
      cases σ with
      | nil => exact a.elim
      | cons v σ =>
        have nd := o.nodup
        rw [List.flatten_cons] at nd
        have h1 := List.nodup_append.mp nd
        have h2 := List.nodup_append.mp h1.2.1
        have o1 : Own f (S ++ (A ++ SG.flatten)) H Hs := o.less (by
          refine List.nodup_append.mpr ⟨h2.1, List.nodup_append.mpr ⟨h1.1, h2.2.1, fun x hx y hy => h1.2.2 x hx y (List.mem_append_right _ hy)⟩, fun x hx y hy => ?_⟩
          rcases List.mem_append.mp hy with hy | hy
          · exact fun e => h1.2.2 y hy x (List.mem_append_left _ hx) e.symm
          · exact h2.2.2 x hx y hy) fun c m => by
            rw [List.flatten_cons]
            rcases List.mem_append.mp m with m | m
            · exact List.mem_append_right _ (List.mem_append_left _ m)
            · rcases List.mem_append.mp m with m | m
              · exact List.mem_append_left _ m
              · exact List.mem_append_right _ (List.mem_append_right _ m)
        have o2 := o1.let
        have e0 : Same Hs (fun a => if a ∈ S then H a else Hs a) := fun a u e => by
          have q : a ∉ S := fun q => by rw [o1.sep a (List.mem_append_left _ q)] at e; cases e
          simpa [q] using e
        have a2 : Sls K H (fun a => if a ∈ S then H a else Hs a) SG σ _ := Sls.keep a.2 (fun _ _ _ h => h) e0
        obtain ⟨SG', Hs', a', o', e⟩ := wk_aux w a2 o2
        obtain ⟨u, eu, r⟩ := a.1
        refine ⟨[] :: SG', Hs', ⟨⟨u, eu, rfl, κ.ty.mono e (κ.thaw r e0 fun a ha o ho => by simpa [ha] using ho)⟩, a'⟩, by rw [List.flatten_cons]; exact o', e0.trans e⟩
theorem Env.wk {K : Fg} {f : Fr} {G G' D : List Slot} {σ : St} {vs : List V} {H Hs : Hp} (w : Wk G G') (h : Env K f G D σ vs H Hs) : ∃ Hs', Same Hs Hs' ∧ Env K f G' D σ vs H Hs' := by
  obtain ⟨SG, SD, a, b, o⟩ := h
  obtain ⟨SG', Hs', a', o', e⟩ := wk_aux w a o
  exact ⟨Hs', e, SG', SD, a', b.keep (fun _ _ _ h => h) e, o'⟩
theorem nodup_setApp : ∀ {SG : List (List Addr)} {S : List Addr} (i : Nat), (S ++ SG.flatten).Nodup → (SG.set i S).flatten.Nodup ∧ ∀ a ∈ (SG.set i S).flatten, a ∈ S ++ SG.flatten
  | [], S, i, h => by simp
  | T :: SG, S, 0, h => by
    rw [List.flatten_cons] at h
    have h1 := List.nodup_append.mp h
    have h2 := List.nodup_append.mp h1.2.1
    refine ⟨?_, fun a m => ?_⟩
    · show (S :: SG).flatten.Nodup
      rw [List.flatten_cons]
      exact List.nodup_append.mpr ⟨h1.1, h2.2.1, fun x hx y hy => h1.2.2 x hx y (List.mem_append_right _ hy)⟩
    · have m' : a ∈ (S :: SG).flatten := m
      rw [List.flatten_cons] at m'
      rw [List.flatten_cons]
      rcases List.mem_append.mp m' with m | m
      · exact List.mem_append_left _ m
      · exact List.mem_append_right _ (List.mem_append_right _ m)
  | T :: SG, S, i + 1, h => by
    rw [List.flatten_cons] at h
    have h1 := List.nodup_append.mp h
    have h2 := List.nodup_append.mp h1.2.1
    obtain ⟨n, k⟩ := nodup_setApp (SG := SG) (S := S) i (List.nodup_append.mpr ⟨h1.1, h2.2.1, fun x hx y hy => h1.2.2 x hx y (List.mem_append_right _ hy)⟩)
    refine ⟨?_, fun a m => ?_⟩
    · show (T :: SG.set i S).flatten.Nodup
      rw [List.flatten_cons]
      refine List.nodup_append.mpr ⟨h2.1, n, fun x hx y hy => ?_⟩
      rcases List.mem_append.mp (k y hy) with m | m
      · exact fun e => h1.2.2 y m x (List.mem_append_left _ hx) e.symm
      · exact h2.2.2 x hx y m
    · have m' : a ∈ (T :: SG.set i S).flatten := m
      rw [List.flatten_cons] at m'
      rw [List.flatten_cons]
      rcases List.mem_append.mp m' with m | m
      · exact List.mem_append_right _ (List.mem_append_left _ m)
      · rcases List.mem_append.mp (k a m) with m | m
        · exact List.mem_append_left _ m
        · exact List.mem_append_right _ (List.mem_append_right _ m)
/-- a temporary value is stored -/
theorem Env.store {K : Fg} {f : Fr} {G D : List Slot} {σ : St} {vs : List V} {H Hs : Hp} {s : Slot} {v : V} (i : Nat) (h : Env K f G (s :: D) σ (v :: vs) H Hs) : Env K f (G.set i s) D (σ.set i (some v)) vs H Hs := by
  obtain ⟨SG, SD, a, b, o⟩ := h
  cases SD with
  | nil => exact b.elim
  | cons S SD =>
    refine ⟨SG.set i S, SD, Els.set a b.1, b.2, ?_⟩
    have nd := o.nodup
    rw [List.flatten_cons] at nd
    have h1 := List.nodup_append.mp nd
    have h2 := List.nodup_append.mp h1.1
    obtain ⟨n, k⟩ := nodup_setApp (SG := SG) (S := S) i (List.nodup_append.mpr ⟨h2.1, h1.2.1, fun x hx y hy => h1.2.2 x (List.mem_append_left _ hx) y hy⟩)
    refine o.less (List.nodup_append.mpr ⟨h2.2.1, n, fun x hx y hy => ?_⟩) fun c m => ?_
    · rcases List.mem_append.mp (k y hy) with m | m
      · exact fun e => h2.2.2 y m x hx e.symm
      · exact h1.2.2 x (List.mem_append_right _ hx) y m
    · rw [List.flatten_cons]
      rcases List.mem_append.mp m with m | m
      · exact List.mem_append_left _ (List.mem_append_right _ m)
      · rcases List.mem_append.mp (k c m) with m | m
        · exact List.mem_append_left _ (List.mem_append_left _ m)
        · exact List.mem_append_right _ m
end TM

set_option Elab.async false
set_option linter.all false
set_option maxRecDepth 100000
/-! TM5: statements. -/
namespace TM
open PySem L2

section
variable {X : Cx} {e : Expr} {st : Stmt} {sts : List Stmt}
theorem pe_imp {t t' : TE} (h : PE X e t) (k : ∀ σ H Q, t' σ H Q → t σ H Q) : PE X e t' := ⟨fun pins s σ H Q I q => h.run pins s σ H Q I (k σ H Q q)⟩
theorem pt_imp {t t' : TT} (h : PT X e t) (k : ∀ σ H Q, t' σ H Q → t σ H Q) : PT X e t' := ⟨fun pins s σ H Q I q => h.run pins s σ H Q I (k σ H Q q)⟩
theorem pw_imp {t t' : TT} (h : PW X e t) (k : ∀ σ H Q, t' σ H Q → t σ H Q) : PW X e t' := ⟨fun wh pins s σ H Q I q => h.run wh pins s σ H Q I (k σ H Q q)⟩
theorem ps_imp {t t' : TS} (h : PS X st t) (k : ∀ D σ H, t' D σ H → t D σ H) : PS X st t' := ⟨fun pins s σ H D I q => h.run pins s σ H D I (k D σ H q)⟩
theorem pss_imp {t t' : TS} (h : PSs X sts t) (k : ∀ D σ H, t' D σ H → t D σ H) : PSs X sts t' := ⟨fun pins s σ H D I q => h.run pins s σ H D I (k D σ H q)⟩
theorem pss_ex {β : Type} {t : β → TS} (h : ∀ b, PSs X sts (t b)) : PSs X sts (fun D σ H => ∃ b, t b D σ H) := ⟨fun pins s σ H D I ⟨b, q⟩ => (h b).run pins s σ H D I q⟩
theorem pe_ex {β : Type} {t : β → TE} (h : ∀ b, PE X e (t b)) : PE X e (fun σ H Q => ∃ b, t b σ H Q) := ⟨fun pins s σ H Q I ⟨b, q⟩ => (h b).run pins s σ H Q I q⟩
theorem pt_ex {β : Type} {t : β → TT} (h : ∀ b, PT X e (t b)) : PT X e (fun σ H Q => ∃ b, t b σ H Q) := ⟨fun pins s σ H Q I ⟨b, q⟩ => (h b).run pins s σ H Q I q⟩
theorem pw_ex {β : Type} {t : β → TT} (h : ∀ b, PW X e (t b)) : PW X e (fun σ H Q => ∃ b, t b σ H Q) := ⟨fun wh pins s σ H Q I ⟨b, q⟩ => (h b).run wh pins s σ H Q I q⟩
end

def XS (B : Bd) (f : Fr) (xok : Exc → Prop) (W : WX) : Prop := ∀ ex, xok ex → ∀ σ cls d H', (∀ a o, f.H0 a = some o → a ∉ f.S0 → H' a = some o) → XRep B.mg ex cls d H' → W cls d σ H'
theorem XS.xw {B : Bd} {f : Fr} {xok : Exc → Prop} {W : WX} {G D : List Slot} {σ : St} {vs : List V} {H Hs : Hp} (h : XS B f xok W) (e : Env B.K f G D σ vs H Hs) : XW B xok W σ H :=
  fun ex hx cls d H' s r => h ex hx σ cls d H' (fun a o q n => s a o (e.pres a o q n)) r

structure CxS (B : Bd) (X : Cx) : Prop extends CxOk B X where
  pass : PassesOwn (model X.prog X.w) X.A X.env X.xe
  fn : ∀ x, X.fn x = true
  stk : X.stack = X.env :: X.outer
  frm : X.env.frame = some X.env.locals

/-! ### what a pure expression is, in a state that owns -/
theorem thawed {f : Fr} {A : List Addr} {H Hs H' Hv' : Hp} (o : Own f A H Hs) (g : Grow H H H' Hv') :
    ∃ Hs', Grow H Hs H' Hs' ∧ (∀ a u, Hv' a = some u → ¬ Mut (some u) → Hs' a = some u) ∧ (∀ a, Hv' a = none → Hs' a = none) := by
  refine ⟨fun a => if (H a).isSome = true then Hs a else Hv' a, ⟨g.same, ⟨fun a u e => ?_, fun a u e n => ?_⟩, fun a u e => ?_, fun a u e => ?_⟩, fun a u e n => ?_, fun a e => ?_⟩
  · by_cases q : (H a).isSome = true
    · simp only [q, if_true] at e; exact g.same a u (o.view.sub a u e)
    · simp only [q] at e; exact g.view.sub a u e
  · by_cases q : (H a).isSome = true
    · simp only [q, if_true]
      obtain ⟨u2, e2⟩ := Option.isSome_iff_exists.mp q
      have e3 := g.same a u2 e2
      rw [e] at e3; cases e3
      exact o.view.imm a u e2 n
    · simp only [q]; exact g.view.imm a u e n
  · have q : (H a).isSome = true := by rw [o.view.sub a u e]; rfl
    simp only [q, if_true]; exact e
  · by_cases q : (H a).isSome = true
    · simp only [q, if_true] at e; exact .inl e
    · simp at q; exact .inr q
  · by_cases q : (H a).isSome = true
    · simp only [q, if_true]
      obtain ⟨u2, e2⟩ := Option.isSome_iff_exists.mp q
      have e3 := g.same a u2 e2
      have e4 := g.view.sub a u e
      rw [e3] at e4; cases e4
      exact o.view.imm a u e2 n
    · simp only [q]; exact e
  · by_cases q : (H a).isSome = true
    · obtain ⟨u2, e2⟩ := Option.isSome_iff_exists.mp q
      have e3 := g.up a u2 e2
      rw [e] at e3; cases e3
    · simp only [q]; exact e

/-- an expression that may change what slots own: G' behind it, its value -/
def EJ (B : Bd) (G : List Slot) (e : Expr) {β : Type} (m : Res β) (G' : β → List Slot) (κ : Kd) (x : β → κ.ty.T) : Prop := ∀ X W, CxOk B X → Takes X W → PE X e (fun σ H Q =>
  ∃ f xok D vs Hs, XS B f xok W ∧ Env B.K f G D σ vs H Hs ∧ m.wp xok fun b => ∀ v H' Hs', Env B.K f (G' b) (some ⟨κ, x b⟩ :: D) σ (v :: vs) H' Hs' → Q v H')
def ETJ (B : Bd) (G : List Slot) (e : Expr) {β : Type} (m : Res β) (G' : β → List Slot) (c : β → Bool) : Prop := ∀ X W, CxOk B X → Takes X W → PT X e (fun σ H Q =>
  ∃ f xok D vs Hs, XS B f xok W ∧ Env B.K f G D σ vs H Hs ∧ m.wp xok fun b => ∀ H' Hs', Env B.K f (G' b) D σ vs H' Hs' → Q (c b) H')
section
variable {B : Bd} {G : List Slot} {e a b : Expr} {τ σ ρ : Ty} {κ : Kd} {pos : Pos}
theorem ej_own {m : Res κ.ty.T} (h : OJ B (stab G) e κ m) : EJ B G e m (fun _ => G) κ fun x => x := by
  obtain ⟨t, h1, h2⟩ := h
  refine fun X W ok tk => pe_imp (h1 X W ok tk) fun σ H Q ⟨f, xok, D, vs, Hs, xs, env, q⟩ => ?_
  exact h2 W xok σ H Hs Q env.view env.vstab (xs.xw env) (Res.wp_mono q fun x k v H' Hs' S g r fr => k v H' Hs' (env.push g r fr))
theorem ej_ownI {m : Res κ.ty.T} (h : OJ B G e κ m) (hi : κ.Imm) : EJ B G e m (fun _ => G) κ fun x => x := by
  obtain ⟨t, h1, h2⟩ := h
  refine fun X W ok tk => pe_imp (h1 X W ok tk) fun σ H Q ⟨f, xok, D, vs, Hs, xs, env, q⟩ => ?_
  refine h2 W xok σ H H Q (View.refl H) env.vall (xs.xw env) (Res.wp_mono q fun x k v H' Hv' S g r fr => ?_)
  obtain ⟨SG, SD, _, _, o⟩ := id env
  obtain ⟨Hs', g', i1, i2⟩ := thawed o g
  exact k v H' Hs' (env.push g' (hi i1 r) ⟨fr.nodup, fr.new, fr.live, fun a m => i2 a (fr.sep a m)⟩)
theorem ej_stab {m : Res τ.T} (h : PJ B (stab G) e τ m) : EJ B G e m (fun _ => G) (kVal τ) fun x => x := ej_own (oj_of_pj h)
theorem ej_imm {m : Res τ.T} (h : PJ B G e τ m) (hi : τ.Imm) : EJ B G e m (fun _ => G) (kVal τ) fun x => x := ej_ownI (oj_of_pj h) (imm_kVal hi)
theorem etj_of {m : Res Bool} (h : TJ B G e m) : ETJ B G e m (fun _ => G) fun x => x := by
  obtain ⟨t, h1, h2⟩ := h
  refine fun X W ok tk => pt_imp (h1 X W ok tk) fun σ H Q ⟨f, xok, D, vs, Hs, xs, env, q⟩ => ?_
  refine h2 W xok σ H H Q (View.refl H) env.vall (xs.xw env) (Res.wp_mono q fun x k H' Hv' g => ?_)
  obtain ⟨SG, SD, _, _, o⟩ := id env
  obtain ⟨Hs', g', _, _⟩ := thawed o g
  exact k H' Hs' (env.grown g')
end

/-! ### blocks -/
inductive Fin where
  | nx (G : List Slot) | rt (G : List Slot) (κ : Kd) (x : κ.ty.T) | bk (G : List Slot) | ct (G : List Slot)
def Fin.ends : Fin → Bool
  | .nx _ => false
  | _ => true
def FinOk (K : Fg) (f : Fr) (D : Ends) (z : Fin) : Prop := match z with
  | .nx G => ∀ σ H Hs, Env K f G [] σ [] H Hs → D.nx σ H
  | .rt G κ x => ∀ v σ H Hs, Env K f G [some ⟨κ, x⟩] σ [v] H Hs → D.rt v H
  | .bk G => ∀ σ H Hs, Env K f G [] σ [] H Hs → D.bk σ H
  | .ct G => ∀ σ H Hs, Env K f G [] σ [] H Hs → D.ct σ H
theorem FinOk.nx_any {K : Fg} {f : Fr} {D : Ends} {z : Fin} {N : St → Hp → Prop} (h : FinOk K f D z) (e : z.ends = true) : FinOk K f { D with nx := N } z := by
  cases z with
  | nx G => cases e
  | rt G κ x => exact h
  | bk G => exact h
  | ct G => exact h
def BJ (B : Bd) (G : List Slot) (sts : List Stmt) {α : Type} (m : Res α) (fin : α → Fin) : Prop := ∀ X W, CxS B X → Takes X W → PSs X sts (fun D σ H =>
  ∃ f xok Hs, XS B f xok W ∧ Env B.K f G [] σ [] H Hs ∧ m.wp xok fun a => FinOk B.K f D (fin a))
abbrev NJ (B : Bd) (G : List Slot) (sts : List Stmt) {β : Type} (m : Res β) (g : β → List Slot) : Prop := BJ B G sts m fun s => .nx (g s)

def forM {α β : Type} (xs : List α) (s : β) (g : α → β → Res β) : Res β := match xs with
  | [] => .ok s
  | x :: xs => (g x s).bind fun s' => forM xs s' g
def whileM {β : Type} (n : Nat) (s : β) (c : β → Res Bool) (g : β → Res β) : Res β := match n with
  | 0 => .bad
  | n + 1 => (c s).bind fun b => if b = true then (g s).bind fun s' => whileM n s' c g else .ok s
/-- a loop that may be left: by break, by return -/
inductive Step (ζ β : Type) where
  | nx (s : β) | bk (s : β) | rt (z : ζ)
inductive Done (ζ β : Type) where
  | go (s : β) | rt (z : ζ)
def forR {α β ζ : Type} (xs : List α) (s : β) (g : α → β → Res (Step ζ β)) : Res (Done ζ β) := match xs with
  | [] => .ok (.go s)
  | x :: xs => (g x s).bind fun r => match r with
    | .nx s' => forR xs s' g
    | .bk s' => .ok (.go s')
    | .rt z => .ok (.rt z)
def whileR {β ζ : Type} (n : Nat) (s : β) (c : β → Res Bool) (g : β → Res (Step ζ β)) : Res (Done ζ β) := match n with
  | 0 => .bad
  | n + 1 => (c s).bind fun b => if b = true then (g s).bind fun r => match r with
    | .nx s' => whileR n s' c g
    | .bk s' => .ok (.go s')
    | .rt z => .ok (.rt z)
    else .ok (.go s)

theorem Own.reframe {f : Fr} {A : List Addr} {H Hs : Hp} (h : Own f A H Hs) : Own { f with V0 := Hs } A H Hs :=
  ⟨h.nodup, h.orig, h.live, h.view, h.sep, Same.refl Hs, fun _ _ e => .inl e, h.pres, h.dom⟩
theorem Own.unframe {f : Fr} {A A1 : List Addr} {H Hs H1 Hs1 : Hp} (h1 : Own f A1 H1 Hs1) (h : Own { f with V0 := Hs1 } A H Hs) : Own f A H Hs :=
  ⟨h.nodup, h.orig, h.live, h.view, h.sep, h1.grow.trans h.grow, fun a o e => by
    rcases h.fresh a o e with z | z
    · exact h1.fresh a o z
    · exact .inr z, h.pres, h.dom⟩
theorem Env.reframe {K : Fg} {f : Fr} {G D : List Slot} {σ : St} {vs : List V} {H Hs : Hp} (h : Env K f G D σ vs H Hs) : Env K { f with V0 := Hs } G D σ vs H Hs := by
  obtain ⟨SG, SD, a, b, o⟩ := h
  exact ⟨SG, SD, a, b, o.reframe⟩
theorem Env.unframe {K : Fg} {f : Fr} {G D G1 D1 : List Slot} {σ σ1 : St} {vs vs1 : List V} {H Hs H1 Hs1 : Hp} (h1 : Env K f G1 D1 σ1 vs1 H1 Hs1) (h : Env K { f with V0 := Hs1 } G D σ vs H Hs) : Env K f G D σ vs H Hs := by
  obtain ⟨SG, SD, a, b, o⟩ := h
  obtain ⟨_, _, _, _, o1⟩ := h1
  exact ⟨SG, SD, a, b, o1.unframe o⟩
theorem Env.seen {K : Fg} {f : Fr} {G D : List Slot} {σ : St} {vs : List V} {H Hs : Hp} (h : Env K f G D σ vs H Hs) : Same f.V0 Hs := let ⟨_, _, _, _, o⟩ := h; o.grow
theorem FinOk.unframe {K : Fg} {f : Fr} {D : Ends} {z : Fin} {G1 D1 : List Slot} {σ1 : St} {vs1 : List V} {H1 Hs1 : Hp} (h1 : Env K f G1 D1 σ1 vs1 H1 Hs1) (h : FinOk K f D z) : FinOk K { f with V0 := Hs1 } D z := by
  cases z with
  | nx G => exact fun σ H Hs e => h σ H Hs (h1.unframe e)
  | rt G κ x => exact fun v σ H Hs e => h v σ H Hs (h1.unframe e)
  | bk G => exact fun σ H Hs e => h σ H Hs (h1.unframe e)
  | ct G => exact fun σ H Hs e => h σ H Hs (h1.unframe e)

/-- what a for walks: the items, how an item is stored -/
def Iter (K : Fg) (f : Fr) (J : It) (g : TG) {α : Type} (xs : List α) (bind : α → List Slot → List Slot) (Hs1 : Hp) : Prop := ∀ H2 Hs2 σ G', Env K f G' [] σ [] H2 Hs2 → Same Hs1 Hs2 → ∀ i : Nat,
  (∀ x, xs[i]? = some x → J.go i H2 ∧ ∀ v H3, J.yld i H2 v H3 → ∀ Q : St → Hp → Prop, (∀ σ' H' Hs', Env K f (bind x G') [] σ' [] H' Hs' → Q σ' H') → g v σ H3 Q) ∧ (xs[i]? = none → J.stop i H2)
def FJ (B : Bd) (G : List Slot) (tg iter : Expr) {α : Type} (m : Res (List α)) (bind : α → List Slot → List Slot) : Prop := ∀ X W, CxS B X → Takes X W → ∃ wi g, PI X tg iter wi ∧ PG X tg g ∧
  ∀ f xok σ H Hs R, XS B f xok W → Env B.K f G [] σ [] H Hs → (m.wp xok fun xs => ∀ J H' Hs', Env B.K f G [] σ [] H' Hs' → (∀ f', Iter B.K f' J g xs bind Hs') → R J H') → wi σ H R

section
variable {B : Bd} {G G' : List Slot} {e c : Expr} {τ : Ty} {κ : Kd} {pos pos' : Pos} {rest sa sb body : List Stmt} {α β ζ : Type} {fin : α → Fin}
theorem BJ.cast {m m' : Res α} (h : BJ B G rest m fin) (e' : m = m') : BJ B G rest m' fin := e' ▸ h
theorem bj_wk {m : Res α} (w : Wk G G') (h : BJ B G' rest m fin) : BJ B G rest m fin := fun X W ok tk => pss_imp (h X W ok tk) fun D σ H ⟨f, xok, Hs, xs, env, q⟩ =>
  let ⟨Hs', _, env'⟩ := env.wk w
  ⟨f, xok, Hs', xs, env', q⟩
theorem bj_nil {a : α} (w : Wk G G') (h : fin a = .nx G') : BJ B G [] (.ok a) fin := fun X W ok tk => pss_imp pss_nil fun D σ H ⟨f, xok, Hs, xs, env, q⟩ => by
  obtain ⟨Hs', _, env'⟩ := env.wk w
  have q' : FinOk B.K f D (fin a) := q
  rw [h] at q'
  exact q' σ H Hs' env'
theorem bj_asg {x : Str} (i : Nat) {m1 : Res β} {G1 : β → List Slot} {v : β → κ.ty.T} {m2 : β → Res α} (hN : B.N.Nodup) (hi : B.N[i]? = some x) (hx : Loc B.sc x) (hl : B.sc.names.lookup x = some .local ∨ True) (he : EJ B G e m1 G1 κ v)
    (hr : ∀ b, BJ B ((G1 b).set i (some ⟨κ, v b⟩)) rest (m2 b) fin) (hs : ∀ X, CxS B X → ∀ te, PE X e te → PS X (.Assign [.Name x pos'] e pos) (tAsg te (gName i))) : BJ B G (.Assign [.Name x pos'] e pos :: rest) (m1.bind m2) fin := fun X W ok tk =>
  pss_imp (pss_cons (hs X ok _ (he X W ok.toCxOk tk)) (pss_ex fun b => hr b X W ok tk)) fun D σ H ⟨f, xok, Hs, xs, env, q⟩ =>
    ⟨f, xok, [], [], Hs, xs, env, Res.wp_mono (Res.wp_bind.mp q) fun b k u H' Hs' env' => ⟨b, f, xok, Hs', xs, env'.store i, k⟩⟩
theorem bj_expr {m1 : Res β} {G1 : β → List Slot} {v : β → κ.ty.T} {m2 : β → Res α} (he : EJ B G e m1 G1 κ v) (hr : ∀ b, BJ B (G1 b) rest (m2 b) fin) (hs : ∀ X : Cx, swapsWith e none pos.line X.env = pure false := by intro _; rfl) :
    BJ B G (.Expr e pos :: rest) (m1.bind m2) fin := fun X W ok tk =>
  pss_imp (pss_cons (ps_expr (he X W ok.toCxOk tk) (hs X)) (pss_ex fun b => hr b X W ok tk)) fun D σ H ⟨f, xok, Hs, xs, env, q⟩ =>
    ⟨f, xok, [], [], Hs, xs, env, Res.wp_mono (Res.wp_bind.mp q) fun b k u H' Hs' env' => ⟨b, f, xok, Hs', xs, env'.pop, k⟩⟩
theorem bj_ret {m1 : Res β} {G1 G2 : β → List Slot} {v : β → κ.ty.T} {out : β → α} (he : EJ B G e m1 G1 κ v) (w : ∀ b, Wk (G1 b) (G2 b)) (hf : ∀ b, fin (out b) = .rt (G2 b) κ (v b)) :
    BJ B G (.Return (some e) pos :: rest) (m1.bind fun b => .ok (out b)) fin := fun X W ok tk =>
  pss_imp (pss_cons (ps_ret (he X W ok.toCxOk tk)) pss_never) fun D σ H ⟨f, xok, Hs, xs, env, q⟩ =>
    ⟨f, xok, [], [], Hs, xs, env, Res.wp_mono (Res.wp_bind.mp q) fun b k u H' Hs' env' => by
      have k' : FinOk B.K f D (fin (out b)) := k
      rw [hf b] at k'
      obtain ⟨Hs2, _, env2⟩ := env'.wk (w b)
      exact k' u σ H' Hs2 env2⟩
theorem bj_pass {m : Res α} (h : BJ B G rest m fin) : BJ B G (.Pass pos :: rest) m fin := fun X W ok tk => pss_imp (pss_cons ps_pass (h X W ok tk)) fun D σ H q => q
theorem bj_break {a : α} (w : Wk G G') (h : fin a = .bk G') : BJ B G (.Break pos :: rest) (.ok a) fin := fun X W ok tk => pss_imp (pss_cons ps_break pss_never) fun D σ H ⟨f, xok, Hs, xs, env, q⟩ => by
  obtain ⟨Hs', _, env'⟩ := env.wk w
  have q' : FinOk B.K f D (fin a) := q
  rw [h] at q'
  exact q' σ H Hs' env'
theorem bj_continue {a : α} (w : Wk G G') (h : fin a = .ct G') : BJ B G (.Continue pos :: rest) (.ok a) fin := fun X W ok tk => pss_imp (pss_cons ps_continue pss_never) fun D σ H ⟨f, xok, Hs, xs, env, q⟩ => by
  obtain ⟨Hs', _, env'⟩ := env.wk w
  have q' : FinOk B.K f D (fin a) := q
  rw [h] at q'
  exact q' σ H Hs' env'
/-- if c: (never falls through); the rest is the other way -/
theorem bj_ifT {m1 : Res β} {G1 : β → List Slot} {b : β → Bool} {ma : β → Res ζ} {mr : β → Res α} {finz : ζ → Fin} {inj : ζ → α} (hc : ETJ B G c m1 G1 b) (ha : ∀ s, BJ B (G1 s) sa (ma s) finz) (hz : ∀ z, (finz z).ends = true) (hi : ∀ z, fin (inj z) = finz z)
    (hr : ∀ s, BJ B (G1 s) rest (mr s) fin) : BJ B G (.If c sa [] pos :: rest) (m1.bind fun s => if b s = true then (ma s).map inj else mr s) fin := fun X W ok tk =>
  pss_imp (pss_cons (ps_if (hc X W ok.toCxOk tk) (pss_ex fun s => ha s X W ok tk) pss_nil) (pss_ex fun s => hr s X W ok tk)) fun D σ H ⟨f, xok, Hs, xs, env, q⟩ =>
    ⟨f, xok, [], [], Hs, xs, env, Res.wp_mono (Res.wp_bind.mp q) fun s k H' Hs' env' => by
      cases hb : b s with
      | true =>
        rw [hb] at k
        refine ⟨s, f, xok, Hs', xs, env', Res.wp_mono (Res.wp_bind.mp (show ((ma s).bind fun x => .ok (inj x)).wp xok _ from k)) fun z kz => ?_⟩
        have kz' : FinOk B.K f D (fin (inj z)) := kz
        rw [hi z] at kz'
        exact kz'.nx_any (hz z)
      | false =>
        rw [hb] at k
        exact ⟨s, f, xok, Hs', xs, env', k⟩⟩
/-- if c: sa else: sb, both fall through into a state of one form -/
theorem bj_ifJ {γ : Type} {m1 : Res γ} {G1 : γ → List Slot} {b : γ → Bool} {ma mb : γ → Res β} {g : β → List Slot} {mr : β → Res α} (hc : ETJ B G c m1 G1 b) (ha : ∀ s, NJ B (G1 s) sa (ma s) g) (hb : ∀ s, NJ B (G1 s) sb (mb s) g)
    (hr : ∀ s, BJ B (g s) rest (mr s) fin) : BJ B G (.If c sa sb pos :: rest) ((m1.bind fun s => if b s = true then ma s else mb s).bind mr) fin := fun X W ok tk =>
  pss_imp (pss_cons (ps_if (hc X W ok.toCxOk tk) (pss_ex fun s => ha s X W ok tk) (pss_ex fun s => hb s X W ok tk)) (pss_ex fun s => hr s X W ok tk)) fun D σ H ⟨f, xok, Hs, xs, env, q⟩ =>
    ⟨f, xok, [], [], Hs, xs, env, Res.wp_mono (Res.wp_bind.mp (Res.wp_bind.mp q)) fun s k H' Hs' env' => by
      have fall : ∀ m : Res β, m.wp xok (fun x => (mr x).wp xok fun a => FinOk B.K f D (fin a)) → m.wp xok fun x => FinOk B.K f { D with nx := fun σ H => ∃ b, ∃ f xok Hs, XS B f xok W ∧ Env B.K f (g b) [] σ [] H Hs ∧ (mr b).wp xok fun a => FinOk B.K f D (fin a) } (.nx (g x)) :=
        fun m km => Res.wp_mono km fun x kx σ2 H2 Hs2 env2 => ⟨x, f, xok, Hs2, xs, env2, kx⟩
      cases hbb : b s with
      | true =>
        rw [hbb] at k
        exact ⟨s, f, xok, Hs', xs, env', fall _ k⟩
      | false =>
        rw [hbb] at k
        exact ⟨s, f, xok, Hs', xs, env', fall _ k⟩⟩
/-- if c: sa else: sb, each way falls through or ends -/
theorem bj_ifS {γ : Type} {m1 : Res γ} {G1 : γ → List Slot} {b : γ → Bool} {ma mb : γ → Res (Done ζ β)} {g : β → List Slot} {finz : ζ → Fin} {inj : ζ → α} {mr : β → Res α} (hc : ETJ B G c m1 G1 b)
    (ha : ∀ s, BJ B (G1 s) sa (ma s) fun r => match r with | .go s => .nx (g s) | .rt z => finz z) (hb : ∀ s, BJ B (G1 s) sb (mb s) fun r => match r with | .go s => .nx (g s) | .rt z => finz z)
    (hz : ∀ z, (finz z).ends = true) (hi : ∀ z, fin (inj z) = finz z)
    (hr : ∀ s, BJ B (g s) rest (mr s) fin) : BJ B G (.If c sa sb pos :: rest) ((m1.bind fun s => if b s = true then ma s else mb s).bind fun r => match r with | .go s => mr s | .rt z => .ok (inj z)) fin := fun X W ok tk =>
  pss_imp (pss_cons (ps_if (hc X W ok.toCxOk tk) (pss_ex fun s => ha s X W ok tk) (pss_ex fun s => hb s X W ok tk)) (pss_ex fun s => hr s X W ok tk)) fun D σ H ⟨f, xok, Hs, xs, env, q⟩ =>
    ⟨f, xok, [], [], Hs, xs, env, Res.wp_mono (Res.wp_bind.mp (Res.wp_bind.mp q)) fun s k H' Hs' env' => by
      have fall : ∀ m : Res (Done ζ β), m.wp xok (fun r => (match r with | .go s => mr s | .rt z => .ok (inj z) : Res α).wp xok fun a => FinOk B.K f D (fin a)) →
          m.wp xok fun r => FinOk B.K f { D with nx := fun σ H => ∃ b, ∃ f xok Hs, XS B f xok W ∧ Env B.K f (g b) [] σ [] H Hs ∧ (mr b).wp xok fun a => FinOk B.K f D (fin a) } (match r with | .go s => .nx (g s) | .rt z => finz z) :=
        fun m km => Res.wp_mono km fun r kr => by
          cases r with
          | go x => exact fun σ2 H2 Hs2 env2 => ⟨x, f, xok, Hs2, xs, env2, kr⟩
          | rt z =>
            have kz' : FinOk B.K f D (fin (inj z)) := kr
            rw [hi z] at kz'
            exact kz'.nx_any (hz z)
      cases hbb : b s with
      | true =>
        rw [hbb] at k
        exact ⟨s, f, xok, Hs', xs, env', fall _ k⟩
      | false =>
        rw [hbb] at k
        exact ⟨s, f, xok, Hs', xs, env', fall _ k⟩⟩
/-- a for that is not left ahead of its end -/
theorem bj_for {γ : Type} {tg iter : Expr} {mi : Res (List γ)} {bind : γ → List Slot → List Slot} {g : β → List Slot} {mb : γ → β → Res β} {mr : β → Res α} (hcalm : B.calm = true) (hf : FJ B G tg iter mi bind) (s0 : β) (w0 : Wk G (g s0))
    (hb : ∀ x s, NJ B (bind x (g s)) body (mb x s) g) (hr : ∀ s, BJ B (g s) rest (mr s) fin) (hfs : ∀ (X : Cx) x, foldedSetIterable iter X.env x = pure x := by intro _ _; rfl) : BJ B G (.For tg iter body [] pos :: rest) (mi.bind fun xs => (forM xs s0 mb).bind mr) fin := fun X W ok tk => by
  obtain ⟨wi, gt, h1, h2, h3⟩ := hf X W ok tk
  refine pss_imp (pss_cons (ps_for ok.pass (ok.calm.trans hcalm) h1 h2 (pss_ex fun x => pss_ex fun s => hb x s X W ok tk) (hfs X)) (pss_ex fun s => hr s X W ok tk)) fun D σ H ⟨f, xok, Hs, xs, env, q⟩ => ?_
  refine h3 f xok σ H Hs _ xs env (Res.wp_mono (Res.wp_bind.mp q) fun ys k J H1 Hs1 env1 it => ?_)
  obtain ⟨Hs2, e12, env2⟩ := env1.wk w0
  have xs' : XS B { f with V0 := Hs2 } xok W := xs
  refine ⟨fun i n σ' H' => n = ys.length - i ∧ ∃ s Hs', Env B.K { f with V0 := Hs2 } (g s) [] σ' [] H' Hs' ∧ ((forM (ys.drop i) s mb).bind mr).wp xok fun a => FinOk B.K f D (fin a), ⟨_, rfl, s0, Hs2, env2.reframe, by simpa using k⟩, ?_⟩
  rintro i n σ1 H3 ⟨rfl, s, Hs3, env3, q3⟩
  have it3 := it _ H3 Hs3 σ1 (g s) env3 (e12.trans env3.seen) i
  cases hx : ys[i]? with
  | none =>
    have hle : ys.length ≤ i := List.getElem?_eq_none_iff.mp hx
    rw [List.drop_of_length_le hle] at q3
    exact .inl ⟨it3.2 hx, s, f, xok, Hs3, xs, env2.unframe env3, q3⟩
  | some x =>
    obtain ⟨hlt, hxe⟩ := List.getElem?_eq_some_iff.mp hx
    obtain ⟨hgo, hy⟩ := it3.1 x hx
    refine .inr ⟨hgo, fun σ' H' => ∃ s Hs', Env B.K { f with V0 := Hs2 } (g s) [] σ' [] H' Hs' ∧ ((forM (ys.drop (i + 1)) s mb).bind mr).wp xok fun a => FinOk B.K f D (fin a), fun σ' H' hN => ⟨_, by omega, rfl, hN⟩, fun v H4 hv => ?_⟩
    refine hy v H4 hv _ fun σ5 H5 Hs5 env5 => ⟨x, s, { f with V0 := Hs2 }, xok, Hs5, xs', env5, ?_⟩
    rw [List.drop_eq_getElem_cons hlt, hxe] at q3
    refine Res.wp_mono (Res.wp_bind.mp (show (((mb x s).bind fun s' => forM (ys.drop (i + 1)) s' mb).bind mr).wp xok _ from q3) |> Res.wp_bind.mp) fun s' k' => ?_
    exact fun σ6 H6 Hs6 env6 => ⟨s', Hs6, env6, Res.wp_bind.mpr k'⟩
/-- a for that may be left: by break, by return -/
theorem bj_forR {γ : Type} {tg iter : Expr} {mi : Res (List γ)} {bind : γ → List Slot → List Slot} {g : β → List Slot} {mb : γ → β → Res (Step ζ β)} {mr : β → Res α} {finz : ζ → Fin} {inj : ζ → α} (hcalm : B.calm = true) (hf : FJ B G tg iter mi bind) (s0 : β) (w0 : Wk G (g s0))
    (hb : ∀ x s, BJ B (bind x (g s)) body (mb x s) fun r => match r with | .nx s => .nx (g s) | .bk s => .bk (g s) | .rt z => finz z) (hz : ∀ z, ∃ G κ x, finz z = .rt G κ x) (hi : ∀ z, fin (inj z) = finz z)
    (hr : ∀ s, BJ B (g s) rest (mr s) fin) (hfs : ∀ (X : Cx) x, foldedSetIterable iter X.env x = pure x := by intro _ _; rfl) :
    BJ B G (.For tg iter body [] pos :: rest) (mi.bind fun xs => (forR xs s0 mb).bind fun r => match r with | .go s => mr s | .rt z => .ok (inj z)) fin := fun X W ok tk => by
  obtain ⟨wi, gt, h1, h2, h3⟩ := hf X W ok tk
  refine pss_imp (pss_cons (ps_for ok.pass (ok.calm.trans hcalm) h1 h2 (pss_ex fun x => pss_ex fun s => hb x s X W ok tk) (hfs X)) (pss_ex fun s => hr s X W ok tk)) fun D σ H ⟨f, xok, Hs, xs, env, q⟩ => ?_
  refine h3 f xok σ H Hs _ xs env (Res.wp_mono (Res.wp_bind.mp q) fun ys k J H1 Hs1 env1 it => ?_)
  obtain ⟨Hs2, e12, env2⟩ := env1.wk w0
  have xs' : XS B { f with V0 := Hs2 } xok W := xs
  generalize hcont : (fun r : Done ζ β => (match r with | .go s => mr s | .rt z => .ok (inj z) : Res α)) = cont at k
  refine ⟨fun i n σ' H' => n = ys.length - i ∧ ∃ s Hs', Env B.K { f with V0 := Hs2 } (g s) [] σ' [] H' Hs' ∧ ((forR (ys.drop i) s mb).bind cont).wp xok fun a => FinOk B.K f D (fin a), ⟨_, rfl, s0, Hs2, env2.reframe, by simpa using k⟩, ?_⟩
  rintro i n σ1 H3 ⟨rfl, s, Hs3, env3, q3⟩
  have it3 := it _ H3 Hs3 σ1 (g s) env3 (e12.trans env3.seen) i
  cases hx : ys[i]? with
  | none =>
    have hle : ys.length ≤ i := List.getElem?_eq_none_iff.mp hx
    rw [List.drop_of_length_le hle] at q3
    subst hcont
    exact .inl ⟨it3.2 hx, s, f, xok, Hs3, xs, env2.unframe env3, q3⟩
  | some x =>
    obtain ⟨hlt, hxe⟩ := List.getElem?_eq_some_iff.mp hx
    obtain ⟨hgo, hy⟩ := it3.1 x hx
    refine .inr ⟨hgo, fun σ' H' => ∃ s Hs', Env B.K { f with V0 := Hs2 } (g s) [] σ' [] H' Hs' ∧ ((forR (ys.drop (i + 1)) s mb).bind cont).wp xok fun a => FinOk B.K f D (fin a), fun σ' H' hN => ⟨_, by omega, rfl, hN⟩, fun v H4 hv => ?_⟩
    refine hy v H4 hv _ fun σ5 H5 Hs5 env5 => ⟨x, s, { f with V0 := Hs2 }, xok, Hs5, xs', env5, ?_⟩
    rw [List.drop_eq_getElem_cons hlt, hxe] at q3
    refine Res.wp_mono (Res.wp_bind.mp (Res.wp_bind.mp q3)) fun r k' => ?_
    cases r with
    | nx s' => exact fun σ6 H6 Hs6 env6 => ⟨s', Hs6, env6, Res.wp_bind.mpr k'⟩
    | bk s' =>
      subst hcont
      exact fun σ6 H6 Hs6 env6 => ⟨s', f, xok, Hs6, xs, env2.unframe env6, k'⟩
    | rt z =>
      subst hcont
      have kz : FinOk B.K f D (fin (inj z)) := k'
      rw [hi z] at kz
      obtain ⟨Gz, κz, xz, ez⟩ := hz z
      show FinOk _ _ _ (finz z)
      rw [ez] at kz ⊢
      exact fun v σ6 H6 Hs6 env6 => kz v σ6 H6 Hs6 (env2.unframe env6)
theorem bj_while {g : β → List Slot} {mc : β → Res Bool} {mb : β → Res β} {mr : β → Res α} (n : Nat) (s0 : β) (w0 : Wk G (g s0)) (hc : ∀ s, ETJ B (g s) c (mc s) (fun _ => g s) fun b => b)
    (hb : ∀ s, NJ B (g s) body (mb s) g) (hr : ∀ s, BJ B (g s) rest (mr s) fin) : BJ B G (.While c body [] pos :: rest) ((whileM n s0 mc mb).bind mr) fin := fun X W ok tk => by
  refine pss_imp (pss_cons (ps_while ok.pass (pt_ex fun s => hc s X W ok.toCxOk tk) (pss_ex fun s => hb s X W ok tk)) (pss_ex fun s => hr s X W ok tk)) fun D σ H ⟨f, xok, Hs, xs, env, q⟩ => ?_
  obtain ⟨Hs2, _, env2⟩ := env.wk w0
  refine ⟨fun n σ' H' => ∃ s Hs', Env B.K f (g s) [] σ' [] H' Hs' ∧ ((whileM n s mc mb).bind mr).wp xok fun a => FinOk B.K f D (fin a), ⟨n, s0, Hs2, env2, q⟩, ?_⟩
  rintro m σ1 H3 ⟨s, Hs3, env3, q3⟩
  cases m with
  | zero => exact q3.elim
  | succ m =>
    refine ⟨s, f, xok, [], [], Hs3, xs, env3, Res.wp_mono (Res.wp_bind.mp (Res.wp_bind.mp q3)) fun b k H4 Hs4 env4 => ?_⟩
    cases b with
    | true =>
      refine ⟨fun σ' H' => ∃ s Hs', Env B.K f (g s) [] σ' [] H' Hs' ∧ ((whileM m s mc mb).bind mr).wp xok fun a => FinOk B.K f D (fin a), fun σ' H' hN => ⟨m, Nat.lt_succ_self m, hN⟩, ?_⟩
      exact ⟨s, f, xok, Hs4, xs, env4, Res.wp_mono (Res.wp_bind.mp k) fun s' k' σ6 H6 Hs6 env6 => ⟨s', Hs6, env6, Res.wp_bind.mpr k'⟩⟩
    | false => exact ⟨s, f, xok, Hs4, xs, env4, k⟩
theorem bj_whileR {g : β → List Slot} {mc : β → Res Bool} {mb : β → Res (Step ζ β)} {mr : β → Res α} {finz : ζ → Fin} {inj : ζ → α} (n : Nat) (s0 : β) (w0 : Wk G (g s0)) (hc : ∀ s, ETJ B (g s) c (mc s) (fun _ => g s) fun b => b)
    (hb : ∀ s, BJ B (g s) body (mb s) fun r => match r with | .nx s => .nx (g s) | .bk s => .bk (g s) | .rt z => finz z) (hz : ∀ z, ∃ G κ x, finz z = .rt G κ x) (hi : ∀ z, fin (inj z) = finz z)
    (hr : ∀ s, BJ B (g s) rest (mr s) fin) : BJ B G (.While c body [] pos :: rest) ((whileR n s0 mc mb).bind fun r => match r with | .go s => mr s | .rt z => .ok (inj z)) fin := fun X W ok tk => by
  refine pss_imp (pss_cons (ps_while ok.pass (pt_ex fun s => hc s X W ok.toCxOk tk) (pss_ex fun s => hb s X W ok tk)) (pss_ex fun s => hr s X W ok tk)) fun D σ H ⟨f, xok, Hs, xs, env, q⟩ => ?_
  obtain ⟨Hs2, _, env2⟩ := env.wk w0
  generalize hcont : (fun r : Done ζ β => (match r with | .go s => mr s | .rt z => .ok (inj z) : Res α)) = cont at q
  refine ⟨fun n σ' H' => ∃ s Hs', Env B.K f (g s) [] σ' [] H' Hs' ∧ ((whileR n s mc mb).bind cont).wp xok fun a => FinOk B.K f D (fin a), ⟨n, s0, Hs2, env2, q⟩, ?_⟩
  rintro m σ1 H3 ⟨s, Hs3, env3, q3⟩
  cases m with
  | zero => exact q3.elim
  | succ m =>
    refine ⟨s, f, xok, [], [], Hs3, xs, env3, Res.wp_mono (Res.wp_bind.mp (Res.wp_bind.mp q3)) fun b k H4 Hs4 env4 => ?_⟩
    cases b with
    | true =>
      refine ⟨fun σ' H' => ∃ s Hs', Env B.K f (g s) [] σ' [] H' Hs' ∧ ((whileR m s mc mb).bind cont).wp xok fun a => FinOk B.K f D (fin a), fun σ' H' hN => ⟨m, Nat.lt_succ_self m, hN⟩, ?_⟩
      refine ⟨s, f, xok, Hs4, xs, env4, Res.wp_mono (Res.wp_bind.mp k) fun r k' => ?_⟩
      cases r with
      | nx s' => exact fun σ6 H6 Hs6 env6 => ⟨s', Hs6, env6, Res.wp_bind.mpr k'⟩
      | bk s' =>
        subst hcont
        exact fun σ6 H6 Hs6 env6 => ⟨s', f, xok, Hs6, xs, env6, k'⟩
      | rt z =>
        subst hcont
        have kz : FinOk B.K f D (fin (inj z)) := k'
        rw [hi z] at kz
        obtain ⟨Gz, κz, xz, ez⟩ := hz z
        show FinOk _ _ _ (finz z)
        rw [ez] at kz ⊢
        exact fun v σ6 H6 Hs6 env6 => kz v σ6 H6 Hs6 env6
    | false =>
      subst hcont
      exact ⟨s, f, xok, Hs4, xs, env4, k⟩
end
end TM

set_option Elab.async false
set_option linter.all false
set_option maxRecDepth 100000
/-! TM6: defs and their calls. -/
namespace TM
open PySem L2

/-- what a def promises: arguments a (at pins pn), the mirror F, the slots and the value behind it -/
def SpOf (K : Fg) (mg : Str → Option Value) {A β : Type} (n : Nat) (Gp : (Nat → Addr) → A → List Slot) (F : A → Res β) (Gx : (Nat → Addr) → β → List Slot) (κ : Kd) (x : β → κ.ty.T) : Sp := fun vs H Q E =>
  vs.length = n ∧ ∃ (pn : Nat → Addr) (a : A) (S0 : List Addr) (Hv : Hp) (xok : Exc → Prop), Env K ⟨H, Hv, S0⟩ (Gp pn a) [] (vs.map some) [] H Hv ∧
    (∀ ex, xok ex → ∀ cls d H', (∀ b o, H b = some o → b ∉ S0 → H' b = some o) → XRep mg ex cls d H' → E cls d H') ∧
    (F a).wp xok fun b => ∀ v σ' H' Hs', Env K ⟨H, Hv, S0⟩ (Gx pn b) [some ⟨κ, x b⟩] σ' [v] H' Hs' → Q v H'

theorem sls_none {K : Fg} {H Hs : Hp} : ∀ n : Nat, Sls K H Hs (List.replicate n []) (List.replicate n none) (List.replicate n none)
  | 0 => trivial
  | n + 1 => ⟨rfl, sls_none n⟩
theorem flatten_nils (α : Type) : ∀ n : Nat, (List.replicate n ([] : List α)).flatten = []
  | 0 => rfl
  | n + 1 => by rw [List.replicate_succ, List.flatten_cons, flatten_nils α n]; rfl
theorem Env.pad {K : Fg} {f : Fr} {G D : List Slot} {σ : St} {vs : List V} {H Hs : Hp} (n : Nat) (h : Env K f G D σ vs H Hs) : Env K f (G ++ List.replicate n none) D (σ ++ List.replicate n none) vs H Hs := by
  obtain ⟨SG, SD, a, b, o⟩ := h
  refine ⟨SG ++ List.replicate n [], SD, Els.append a (sls_none n), b, ?_⟩
  rw [List.flatten_append, flatten_nils, List.append_nil]
  exact o

section
variable {P : Program} {w : World} {K : Fg} {mg : Str → Option Value} {base : Heap}
abbrev bdOf (P : Program) (w : World) (K : Fg) (mg : Str → Option Value) (base : Heap) (k : Nat) (N : List Str) (st : Stmt) : Bd := ⟨P, w, K, mg, base, k, N, defScope st, true, fun _ => True⟩
theorem fn_ok {x qual : Str} {st : Stmt} {f : Addr} {fd : FuncData} {N ps : List Str} {k n : Nat} {A β : Type} {Gp : (Nat → Addr) → A → List Slot} {F : A → Res β} {Gx : (Nat → Addr) → β → List Slot} {κ : Kd} {y : β → κ.ty.T}
    (Fn : Fun K x qual st f fd) (S : FnScope N ps (defScope st)) (hn : n = ps.length)
    (body : ∀ pn a, BJ (bdOf P w K mg base k N st) (Gp pn a ++ List.replicate (N.length - n) none) (defBody st) (F a) fun b => .rt (Gx pn b) κ (y b)) :
    FnOk P w K mg base (L2.CX P w) (k + 1) f fd ps (SpOf K mg n Gp F Gx κ y) := by
  refine Fn.okX S (fun vs H Q E h => h.1.trans hn) fun cdv A outer s H vs Q E hr h => ?_
  obtain ⟨hl, pn, a, S0, Hv, xok, env, hx, q⟩ := h
  refine ⟨_, body pn a _ (fun cls d _ H => E cls d H) ⟨⟨rfl, rfl, rfl, rfl, rfl, fun _ => hr, rfl, rfl, rfl, trivial⟩, passes_of rfl, fun _ => rfl, rfl, rfl⟩ (takes_of rfl rfl rfl rfl), ⟨H, Hv, S0⟩, xok, Hv, ?_, ?_, ?_⟩
  · exact fun ex he σ cls d H' p r => hx ex he cls d H' p r
  · have e := env.pad (N.length - n)
    rw [← hl] at e
    rw [← hl]
    exact e
  · exact Res.wp_mono q fun b k v σ' H' Hs' e => k v σ' H' Hs' e
/-- a def without a return -/
theorem fn_okN {x qual : Str} {st : Stmt} {f : Addr} {fd : FuncData} {N ps : List Str} {k n : Nat} {A β : Type} {Gp : (Nat → Addr) → A → List Slot} {F : A → Res β} {Gx : (Nat → Addr) → β → List Slot}
    (Fn : Fun K x qual st f fd) (S : FnScope N ps (defScope st)) (hn : n = ps.length)
    (body : ∀ pn a, BJ (bdOf P w K mg base k N st) (Gp pn a ++ List.replicate (N.length - n) none) (defBody st) (F a) fun b => .nx (Gx pn b)) :
    FnOk P w K mg base (L2.CX P w) (k + 1) f fd ps (SpOf K mg n Gp F Gx (kVal tNone) fun _ => ()) := by
  refine Fn.okX S (fun vs H Q E h => h.1.trans hn) fun cdv A outer s H vs Q E hr h => ?_
  obtain ⟨hl, pn, a, S0, Hv, xok, env, hx, q⟩ := h
  refine ⟨_, body pn a _ (fun cls d _ H => E cls d H) ⟨⟨rfl, rfl, rfl, rfl, rfl, fun _ => hr, rfl, rfl, rfl, trivial⟩, passes_of rfl, fun _ => rfl, rfl, rfl⟩ (takes_of rfl rfl rfl rfl), ⟨H, Hv, S0⟩, xok, Hv, ?_, ?_, ?_⟩
  · exact fun ex he σ cls d H' p r => hx ex he cls d H' p r
  · have e := env.pad (N.length - n)
    rw [← hl] at e
    rw [← hl]
    exact e
  · refine Res.wp_mono q fun b k σ' H' Hs' e => k .non σ' H' Hs' ?_
    exact e.push (S := []) (Grow.refl e.view) ⟨rfl, rfl⟩ ⟨.nil, fun _ z => (List.not_mem_nil z).elim, fun _ z => (List.not_mem_nil z).elim, fun _ z => (List.not_mem_nil z).elim⟩
end

/-! ### arguments -/
/-- stable values: their types, what they are -/
abbrev stab_sls (K : Fg) (Hv : Hp) (vs : List V) (ps : List (Σ τ : Ty, τ.T)) : Prop := Els2 (fun v (p : Σ τ : Ty, τ.T) => p.1.rep K Hv v p.2) vs ps
theorem Els2.imp2 {γ : Type} {α : Type u} {F F' : γ → α → Prop} : ∀ {vs : List γ} {xs : List α}, Els2 F vs xs → (∀ v x, F v x → F' v x) → Els2 F' vs xs
  | [], [], _, _ => trivial
  | v :: vs, x :: xs, h, k => ⟨k v x h.1, h.2.imp2 k⟩
  | [], _ :: _, h, _ => h.elim
  | _ :: _, [], h, _ => h.elim
abbrev svs (ps : List (Σ τ : Ty, τ.T)) : List Slot := ps.map fun p => sv p.1 p.2
theorem sls_of {K : Fg} {H Hv : Hp} : ∀ {vs : List V} {ps : List (Σ τ : Ty, τ.T)}, stab_sls K Hv vs ps → Sls K H Hv (List.replicate vs.length []) (vs.map some) (svs ps)
  | [], [], _ => trivial
  | v :: vs, p :: ps, h => ⟨⟨v, rfl, rfl, h.1⟩, sls_of h.2⟩
  | [], _ :: _, h => h.elim
  | _ :: _, [], h => h.elim
theorem Els2.len2 {γ : Type} {α : Type u} {F : γ → α → Prop} : ∀ {vs : List γ} {xs : List α}, Els2 F vs xs → vs.length = xs.length
  | [], [], _ => rfl
  | v :: vs, x :: xs, h => congrArg (· + 1) h.2.len2
  | [], _ :: _, h => h.elim
  | _ :: _, [], h => h.elim
/-- pure arguments, from the left -/
def AJ (B : Bd) (G : List Slot) (es : List Expr) {γ : Type} (m : Res γ) (out : γ → List (Σ τ : Ty, τ.T)) : Prop := ∃ t : WX → TA, (∀ X W, CxOk B X → Takes X W → PA X es (t W)) ∧
  ∀ (W : WX) (xok : Exc → Prop) (σ : St) (H Hv : Hp) (Q : List V → Hp → Prop), View H Hv → VEnv B.K Hv G σ → XW B xok W σ H → (m.wp xok fun c => ∀ vs H' Hv', Grow H Hv H' Hv' → stab_sls B.K Hv' vs (out c) → Q vs H') → t W σ H Q
section
variable {B : Bd} {G : List Slot} {e : Expr} {es : List Expr} {τ : Ty} {κ : Kd} {pos p : Pos} {γ : Type}
theorem aj_nil : AJ B G [] (.ok ()) (fun _ => []) := ⟨fun _ => tNil, fun _ _ _ _ => pa_nil, fun W xok σ H Hv Q v ve xw q => q [] H Hv (Grow.refl v) trivial⟩
theorem aj_cons {ma : Res τ.T} {mr : Res γ} {out : γ → List (Σ τ : Ty, τ.T)} (ha : PJ B G e τ ma) (hr : AJ B G es mr out) (hs : ∀ env, starEach (e :: es) env = (false, eval e env) :: starEach es env := by intro _; rfl) :
    AJ B G (e :: es) (ma.bind fun x => mr.bind fun c => .ok (x, c)) (fun c => ⟨τ, c.1⟩ :: out c.2) := by
  obtain ⟨ta, a1, a2⟩ := ha
  obtain ⟨tr, r1, r2⟩ := hr
  refine ⟨fun W => tCons (ta W) (tr W), fun X W ok tk => pa_cons (a1 X W ok tk) (r1 X W ok tk) (hs X.env), fun W xok st H Hv Q v ve xw q => ?_⟩
  refine a2 W xok st H Hv _ v ve xw (Res.wp_mono (Res.wp_bind.mp q) fun x k u H1 Hv1 g1 ru => ?_)
  refine r2 W xok st H1 Hv1 _ g1.view (ve.mono g1.up) (xw.mono g1.same) (Res.wp_mono (Res.wp_bind.mp k) fun c k2 vs H2 Hv2 g2 rs => ?_)
  exact k2 (u :: vs) H2 Hv2 (g1.trans g2) ⟨τ.mono g2.up ru, rs⟩

/-! ### calls that change nothing -/
/-- where the def stands -/
structure FnAt (B : Bd) (n : Str) (ps : List Str) (sp : Sp) : Prop where
  ex : ∃ f fd j, j ≤ B.k ∧ FnOk B.P B.w B.K B.mg B.base (L2.CX B.P B.w) j f fd ps sp ∧ B.mg n = some (.ref f) ∧ PySem.W.keepIn B.K (.ref f) = true ∧ Binds B.K fd ps []
theorem own_new {H Hv : Hp} (v : View H Hv) : Own ⟨H, Hv, []⟩ [] H Hv :=
  ⟨.nil, fun _ z => (List.not_mem_nil z).elim, fun _ z => (List.not_mem_nil z).elim, v, fun _ z => (List.not_mem_nil z).elim, Same.refl Hv, fun _ _ e => .inl e, fun _ _ e _ => e, fun _ _ e => ⟨_, e⟩⟩
theorem pure_back {K : Fg} {H Hv H' Hs' : Hp} {G : List Slot} {x : κ.ty.T} {σ : St} {v : V} (h : Env K ⟨H, Hv, []⟩ G [some ⟨κ, x⟩] σ [v] H' Hs') : ∃ S, Grow H Hv H' Hs' ∧ κ.rep K S H' Hs' v x ∧ Fresh S H H' Hs' := by
  obtain ⟨SG, SD, a, b, o⟩ := h
  cases SD with
  | nil => exact b.elim
  | cons S SD =>
    obtain ⟨u, e, r⟩ := b.1
    cases e
    refine ⟨S, ⟨fun a o' e => o.pres a o' e (List.not_mem_nil), o.view, o.grow, fun a o' e => ?_⟩, r, ⟨?_, fun a m => ?_, fun a m => o.live a ?_, fun a m => o.sep a ?_⟩⟩
    · rcases o.fresh a o' e with z | z | z
      · exact .inl z
      · exact .inr z
      · exact (List.not_mem_nil z).elim
    · have := o.nodup
      rw [List.flatten_cons, List.append_assoc] at this
      exact (List.nodup_append.mp this).1
    · rcases o.orig a (by rw [List.flatten_cons]; exact List.mem_append_left _ (List.mem_append_left _ m)) with z | z
      · exact (List.not_mem_nil z).elim
      · exact z
    · rw [List.flatten_cons]; exact List.mem_append_left _ (List.mem_append_left _ m)
    · rw [List.flatten_cons]; exact List.mem_append_left _ (List.mem_append_left _ m)
theorem oj_call {n : Str} {ps : List Str} {A β : Type} {Gp : (Nat → Addr) → A → List Slot} {F : A → Res β} {Gx : (Nat → Addr) → β → List Slot} {y : β → κ.ty.T} {k : Nat} {ma : Res γ} {out : γ → List (Σ τ : Ty, τ.T)} {arg : γ → A}
    (fn : FnAt B n ps (SpOf B.K B.mg k Gp F Gx κ y)) (hg : B.sc.names.lookup n = some .globalImplicit) (ha : AJ B G (e :: es) ma out) (hs : ∀ pn c, Gp pn (arg c) = svs (out c)) (hk : ∀ c, (out c).length = k)
    (hdb : (n == ("__debug__" : Str)) = false := by decide) (he : ∀ env, starEach (e :: es) env = (false, eval e env) :: starEach es env := by intro _; rfl) (hpl : ∀ env, (backTo pos (starEach es env)).any (·.1) = false := by intro _; rfl) (hcalm : B.calm = true := by rfl) :
    OJ B G (.Call (.Name n p) (e :: es) [] pos) κ (ma.bind fun c => (F (arg c)).bind fun b => .ok (y b)) := by
  obtain ⟨f, fd, j, hj, fo, hm, hkp, hb⟩ := fn.ex
  obtain ⟨ta, a1, a2⟩ := ha
  refine ⟨fun W => tCallS _ (WE W) (ta W), fun X W ok tk => pe_callS (ok.fn fo) ((ok.room hcalm).mono hj) (by show X.env.scope.names.lookup n = _; rw [ok.sc]; exact hg) (by rw [ok.mg]; exact hm) (by rw [ok.K]; exact hkp) (by rw [ok.K]; exact hb)
    (fun σ => passAt tk σ) (a1 X W ok tk) hdb (he X.env) (hpl X.env), fun W xok st H Hv Q v ve xw q => ?_⟩
  refine a2 W xok st H Hv _ v ve xw (Res.wp_mono (Res.wp_bind.mp q) fun c k2 vs H1 Hv1 g1 rs => ?_)
  refine ⟨rs.len2.trans (hk c), fun _ => 0, arg c, [], Hv1, xok, ?_, ?_, ?_⟩
  · rw [hs]
    refine ⟨List.replicate vs.length [], [], sls_of rs, trivial, ?_⟩
    rw [flatten_nils]
    exact own_new g1.view
  · exact fun ex hx cls d H' s r => (xw.mono g1.same) ex hx cls d H' (fun b o e => s b o e List.not_mem_nil) r
  · refine Res.wp_mono (Res.wp_bind.mp k2) fun b k3 u σ' H' Hs' env => ?_
    obtain ⟨S, g2, r, fr⟩ := pure_back env
    exact k3 u H' Hs' S (g1.trans g2) r ⟨fr.nodup, fun a m => g1.same.free (fr.new a m), fr.live, fr.sep⟩
end
end TM

set_option Elab.async false
set_option linter.all false
set_option maxRecDepth 100000
/-! TM7: lists of one's own, changed. -/
namespace TM
open PySem L2

theorem count_set {a : Addr} {S S' : List Addr} : ∀ {SG : List (List Addr)} {i : Nat}, SG[i]? = some S → List.count a (SG.set i S').flatten + List.count a S = List.count a SG.flatten + List.count a S'
  | [], i, h => by simp at h
  | T :: SG, 0, h => by
    simp at h
    subst h
    show List.count a (S' :: SG).flatten + _ = _
    rw [List.flatten_cons, List.flatten_cons, List.count_append, List.count_append]
    omega
  | T :: SG, i + 1, h => by
    have h' : SG[i]? = some S := by simpa using h
    have := count_set (a := a) (S' := S') h'
    show List.count a (T :: SG.set i S').flatten + _ = _
    rw [List.flatten_cons, List.flatten_cons, List.count_append, List.count_append]
    omega
theorem nodup_count {l : List Addr} : l.Nodup ↔ ∀ a, List.count a l ≤ 1 := List.nodup_iff_count
theorem mem_count {l : List Addr} {a : Addr} : a ∈ l ↔ 0 < List.count a l := List.count_pos_iff.symm
theorem upd_off {H : Hp} {p c : Addr} {ob : HO} {l : List Addr} (n : p ∉ l) (m : c ∈ l) : upd H p ob c = H c := upd_ne fun q => n (by rw [← q]; exact m)
theorem np_of {p : Addr} {A C : List Addr} (nd : ∀ c, List.count c A + List.count c (p :: C) ≤ 1) : p ∉ A ∧ p ∉ C := by
  have h1 := nd p
  rw [List.count_cons_self] at h1
  exact ⟨fun m => by have := mem_count.mp m; omega, fun m => by have := mem_count.mp m; omega⟩
/-- the slot i and the temporary values are changed, by a store into the object at p -/
theorem env_upd {K : Fg} {f : Fr} {G D' : List Slot} {σ : St} {vs' : List V} {H Hs : Hp} {SG SD SD' : List (List Addr)} {i : Nat} {S S' : List Addr} {p : Addr} {ob : HO} {ov : Option V} {s' : Slot}
    (a : Sls K H Hs SG σ G) (o : Own f (SD.flatten ++ SG.flatten) H Hs) (hi : SG[i]? = some S) (hp : p ∈ S) (mu : Mut (some ob)) (ho : σ[i]? = some ov) (ns : SlotOk K (upd H p ob) Hs S' ov s')
    (b' : Sls K (upd H p ob) Hs SD' (vs'.map some) D') (hc : ∀ c, List.count c SD'.flatten + List.count c S' ≤ List.count c SD.flatten + List.count c S) : Env K f (G.set i s') D' σ vs' (upd H p ob) Hs := by
  have hcnt : ∀ c, List.count c (SD'.flatten ++ (SG.set i S').flatten) ≤ List.count c (SD.flatten ++ SG.flatten) := fun c => by
    rw [List.count_append, List.count_append]
    have h1 := count_set (a := c) (S' := S') hi
    have h2 := hc c
    omega
  have nd := nodup_count.mp o.nodup
  have hpm : p ∈ SD.flatten ++ SG.flatten := List.mem_append_right _ (List.mem_flatten.mpr ⟨S, List.mem_of_getElem? hi, hp⟩)
  refine ⟨SG.set i S', SD', ?_, b', (o.write hpm mu).less (nodup_count.mpr fun c => Nat.le_trans (hcnt c) (nd c)) fun c m => mem_count.mpr (Nat.lt_of_lt_of_le (mem_count.mp m) (hcnt c))⟩
  -- the other slots do not own p
  have hσ : σ.set i ov = σ := by
    obtain ⟨hl, e⟩ := List.getElem?_eq_some_iff.mp ho
    rw [← e]; exact List.set_getElem_self hl
  have key : ∀ {SG : List (List Addr)} {σ : List (Option V)} {G : List Slot} {i : Nat}, Sls K H Hs SG σ G → SG[i]? = some S → List.count p SG.flatten ≤ 1 → Sls K (upd H p ob) Hs (SG.set i S') (σ.set i ov) (G.set i s') := by
    intro SG
    induction SG with
    | nil => intro σ G i _ h; simp at h
    | cons T SG ih =>
      intro σ G i a h hc
      cases σ with
      | nil => exact a.elim
      | cons v σ =>
        cases G with
        | nil => exact a.elim
        | cons g G =>
          rw [List.flatten_cons, List.count_append] at hc
          cases i with
          | zero =>
            simp at h
            subst h
            have h1 : 0 < List.count p T := mem_count.mp hp
            have h2 : p ∉ SG.flatten := fun m => by
              have := mem_count.mp m
              omega
            exact ⟨ns, Sls.keep a.2 (fun c hm u e => by rw [upd_off h2 hm]; exact e) (Same.refl Hs)⟩
          | succ i =>
            have h' : SG[i]? = some S := by simpa using h
            have h1 : 0 < List.count p SG.flatten := mem_count.mp (List.mem_flatten.mpr ⟨S, List.mem_of_getElem? h', hp⟩)
            have h2 : p ∉ T := fun m => by
              have := mem_count.mp m
              omega
            exact ⟨a.1.keep (fun c hm u e => by rw [upd_off h2 hm]; exact e) (Same.refl Hs), ih a.2 h' (by omega)⟩
  have := key a hi (by have := nd p; rw [List.count_append] at this; omega)
  rw [hσ] at this
  exact this

section
variable {K : Fg} {f : Fr} {G D : List Slot} {σ : St} {vs : List V} {H Hs : Hp} {pin : Addr → Prop} {κ : Kd} {xs : List κ.ty.T} {i : Nat}
theorem Els.insert {β : Type} {α : Type u} {γ : Type} {R : β → γ → α → Prop} : ∀ {Ss : List β} {vs : List γ} {xs : List α} (j : Nat) {S : β} {v : γ} {x : α}, Els R Ss vs xs → R S v x → j ≤ xs.length → Els R (Ss.take j ++ [S] ++ Ss.drop j) (vs.take j ++ [v] ++ vs.drop j) (xs.take j ++ [x] ++ xs.drop j)
  | Ss, vs, xs, 0, _, _, _, h, r, _ => ⟨r, by simpa using h⟩
  | S :: Ss, v :: vs, x :: xs, j + 1, _, _, _, h, r, hl => ⟨h.1, h.2.insert j r (by simpa using hl)⟩
  | [], [], [], j + 1, _, _, _, h, r, hl => by simp at hl
  | [], [], _ :: _, _ + 1, _, _, _, h, _, _ => h.elim
  | [], _ :: _, _, _ + 1, _, _, _, h, _, _ => h.elim
  | _ :: _, [], _, _ + 1, _, _, _, h, _, _ => h.elim
  | _ :: _, _ :: _, [], _ + 1, _, _, _, h, _, _ => h.elim
theorem Els.erase {β : Type} {α : Type u} {γ : Type} {R : β → γ → α → Prop} : ∀ {Ss : List β} {vs : List γ} {xs : List α} (j : Nat), Els R Ss vs xs → Els R (Ss.eraseIdx j) (vs.eraseIdx j) (xs.eraseIdx j)
  | [], [], [], _, _ => trivial
  | S :: Ss, v :: vs, x :: xs, 0, h => h.2
  | S :: Ss, v :: vs, x :: xs, j + 1, h => ⟨h.1, h.2.erase j⟩
  | [], [], _ :: _, _, h => h.elim
  | [], _ :: _, _, _, h => h.elim
  | _ :: _, [], _, _, h => h.elim
  | _ :: _, _ :: _, [], _, h => h.elim
theorem count_erase {a : Addr} : ∀ {Ss : List (List Addr)} {j : Nat} {S : List Addr}, Ss[j]? = some S → List.count a (Ss.eraseIdx j).flatten + List.count a S = List.count a Ss.flatten
  | [], j, _, h => by simp at h
  | T :: Ss, 0, S, h => by
    simp at h; subst h
    show List.count a Ss.flatten + _ = _
    rw [List.flatten_cons, List.count_append]; omega
  | T :: Ss, j + 1, S, h => by
    have := count_erase (a := a) (Ss := Ss) (j := j) (S := S) (by simpa using h)
    show List.count a (T :: Ss.eraseIdx j).flatten + _ = _
    rw [List.flatten_cons, List.flatten_cons, List.count_append, List.count_append]; omega
/-- a list of one's own in slot i, and what may be done with it -/
theorem Env.own {E : Slot} (h : Env K f G D σ vs H Hs) (hg : G[i]? = some (some ⟨kLP pin κ, xs⟩)) : ∃ p us SG SD Ss, σ[i]? = some (some (.ref p)) ∧ H p = some (.lst us) ∧ xs.length ≤ sizeLine ∧ pin p ∧ Els (fun S v x => κ.rep K S H Hs v x) Ss us xs ∧
    SG[i]? = some (p :: Ss.flatten) ∧ Sls K H Hs SG σ G ∧ Sls K H Hs SD (vs.map some) D ∧ Own f (SD.flatten ++ SG.flatten) H Hs := by
  obtain ⟨SG, SD, a, b, o⟩ := h
  obtain ⟨S, ov, e1, e2, v, e3, p, us, Ss, rfl, hpin, h2, h3, rfl, h5⟩ := a.get hg
  exact ⟨p, us, SG, SD, Ss, by rw [e2, e3], h2, h3, hpin, h5, e1, a, b, o⟩
theorem els_off {p : Addr} {ob : HO} {Ss : List (List Addr)} {us : List V} {ys : List κ.ty.T} (h : Els (fun S v x => κ.rep K S H Hs v x) Ss us ys) (n : p ∉ Ss.flatten) : Els (fun S v x => κ.rep K S (upd H p ob) Hs v x) Ss us ys :=
  h.imp fun S v x hm r => κ.keep r (fun a ha o ho => by rw [upd_off n (List.mem_flatten.mpr ⟨S, hm, ha⟩)]; exact ho) (Same.refl Hs)
theorem own_nodup {SG SD : List (List Addr)} {S : List Addr} (o : Own f (SD.flatten ++ SG.flatten) H Hs) (hi : SG[i]? = some S) : ∀ c, List.count c SD.flatten + List.count c S ≤ 1 := fun c => by
  have h1 := nodup_count.mp o.nodup c
  rw [List.count_append] at h1
  have h2 := count_set (a := c) (S' := []) hi
  simp only [List.count_nil] at h2
  omega
theorem sls_off {p : Addr} {ob : HO} {SD : List (List Addr)} {σ' : List (Option V)} {G' : List Slot} (h : Sls K H Hs SD σ' G') (n : p ∉ SD.flatten) : Sls K (upd H p ob) Hs SD σ' G' :=
  Sls.keep h (fun a hm o e => by rw [upd_off n hm]; exact e) (Same.refl Hs)
theorem Env.append {x : κ.ty.T} {v : V} (h : Env K f G (some ⟨κ, x⟩ :: D) σ (v :: vs) H Hs) (hg : G[i]? = some (some ⟨kLP pin κ, xs⟩)) (hl : xs.length < sizeLine) : ∃ p us, σ[i]? = some (some (.ref p)) ∧ H p = some (.lst us) ∧ us.length = xs.length ∧
    Env K f (G.set i (some ⟨kLP pin κ, xs ++ [x]⟩)) D σ vs (upd H p (.lst (us ++ [v]))) Hs := by
  obtain ⟨p, us, SG, SD, Ss, e1, e2, e3, hpin, e4, e5, a, b, o⟩ := h.own (E := none) hg
  cases SD with
  | nil => exact b.elim
  | cons S SD =>
    have nd := own_nodup o e5
    obtain ⟨np, np2⟩ := np_of nd
    refine ⟨p, us, e1, e2, e4.len.2, env_upd (S' := p :: (Ss ++ [S]).flatten) (SD := S :: SD) (SD' := SD) a o e5 List.mem_cons_self trivial e1 ⟨_, rfl, p, us ++ [v], Ss ++ [S], rfl, hpin, upd_same, by rw [List.length_append]; exact hl, rfl, ?_⟩ (sls_off b.2 fun m => np (by rw [List.flatten_cons]; exact List.mem_append_right _ m)) fun c => ?_⟩
    · refine (els_off e4 np2).append ⟨?_, trivial⟩
      obtain ⟨u, q, r⟩ := b.1
      cases q
      exact κ.keep r (fun a ha o ho => by rw [upd_off np (by rw [List.flatten_cons]; exact List.mem_append_left _ ha)]; exact ho) (Same.refl Hs)
    · rw [List.flatten_append, List.flatten_cons, List.flatten_cons, List.flatten_nil, List.append_nil, List.count_cons, List.count_cons, List.count_append, List.count_append]
      omega
theorem Env.setAt {x : κ.ty.T} {v : V} {j : Nat} (h : Env K f G (some ⟨κ, x⟩ :: D) σ (v :: vs) H Hs) (hg : G[i]? = some (some ⟨kLP pin κ, xs⟩)) (hj : j < xs.length) : ∃ p us, σ[i]? = some (some (.ref p)) ∧ H p = some (.lst us) ∧ us.length = xs.length ∧
    Env K f (G.set i (some ⟨kLP pin κ, xs.set j x⟩)) D σ vs (upd H p (.lst (us.set j v))) Hs := by
  obtain ⟨p, us, SG, SD, Ss, e1, e2, e3, hpin, e4, e5, a, b, o⟩ := h.own (E := none) hg
  cases SD with
  | nil => exact b.elim
  | cons S SD =>
    have nd := own_nodup o e5
    obtain ⟨np, np2⟩ := np_of nd
    refine ⟨p, us, e1, e2, e4.len.2, env_upd (S' := p :: (Ss.set j S).flatten) (SD := S :: SD) (SD' := SD) a o e5 List.mem_cons_self trivial e1 ⟨_, rfl, p, us.set j v, Ss.set j S, rfl, hpin, upd_same, by simpa using e3, rfl, ?_⟩ (sls_off b.2 fun m => np (by rw [List.flatten_cons]; exact List.mem_append_right _ m)) fun c => ?_⟩
    · refine (els_off e4 np2).set ?_
      obtain ⟨u, q, r⟩ := b.1
      cases q
      exact κ.keep r (fun a ha o ho => by rw [upd_off np (by rw [List.flatten_cons]; exact List.mem_append_left _ ha)]; exact ho) (Same.refl Hs)
    · obtain ⟨T, hT⟩ : ∃ T, Ss[j]? = some T := ⟨Ss[j]'(by rw [e4.len.1]; exact hj), List.getElem?_eq_getElem _⟩
      have := count_set (a := c) (S' := S) hT
      rw [List.flatten_cons, List.count_cons, List.count_cons, List.count_append]
      omega
theorem Env.insert {x : κ.ty.T} {v : V} {j : Nat} (h : Env K f G (some ⟨κ, x⟩ :: D) σ (v :: vs) H Hs) (hg : G[i]? = some (some ⟨kLP pin κ, xs⟩)) (hj : j ≤ xs.length) (hl : xs.length < sizeLine) : ∃ p us, σ[i]? = some (some (.ref p)) ∧ H p = some (.lst us) ∧ us.length = xs.length ∧
    Env K f (G.set i (some ⟨kLP pin κ, xs.take j ++ [x] ++ xs.drop j⟩)) D σ vs (upd H p (.lst (us.take j ++ [v] ++ us.drop j))) Hs := by
  obtain ⟨p, us, SG, SD, Ss, e1, e2, e3, hpin, e4, e5, a, b, o⟩ := h.own (E := none) hg
  cases SD with
  | nil => exact b.elim
  | cons S SD =>
    have nd := own_nodup o e5
    obtain ⟨np, np2⟩ := np_of nd
    refine ⟨p, us, e1, e2, e4.len.2, env_upd (S' := p :: (Ss.take j ++ [S] ++ Ss.drop j).flatten) (SD := S :: SD) (SD' := SD) a o e5 List.mem_cons_self trivial e1 ⟨_, rfl, p, us.take j ++ [v] ++ us.drop j, Ss.take j ++ [S] ++ Ss.drop j, rfl, hpin, upd_same, ?_, rfl, ?_⟩ (sls_off b.2 fun m => np (by rw [List.flatten_cons]; exact List.mem_append_right _ m)) fun c => ?_⟩
    · have : (List.take j xs ++ [x] ++ List.drop j xs).length = xs.length + 1 := by simp; omega
      rw [this]; exact hl
    · refine (els_off e4 np2).insert j ?_ hj
      obtain ⟨u, q, r⟩ := b.1
      cases q
      exact κ.keep r (fun a ha o ho => by rw [upd_off np (by rw [List.flatten_cons]; exact List.mem_append_left _ ha)]; exact ho) (Same.refl Hs)
    · have e : List.count c Ss.flatten = List.count c (Ss.take j).flatten + List.count c (Ss.drop j).flatten := by
        rw [← List.count_append, ← List.flatten_append, List.take_append_drop]
      rw [List.flatten_append, List.flatten_append, List.flatten_cons, List.flatten_cons, List.flatten_nil, List.append_nil, List.count_cons, List.count_cons, List.count_append, List.count_append, List.count_append]
      omega
/-- an item is taken out -/
theorem Env.popAt {j : Nat} {x : κ.ty.T} (h : Env K f G D σ vs H Hs) (hg : G[i]? = some (some ⟨kLP pin κ, xs⟩)) (hj : xs[j]? = some x) : ∃ p us v, σ[i]? = some (some (.ref p)) ∧ H p = some (.lst us) ∧ us.length = xs.length ∧ us[j]? = some v ∧
    Env K f (G.set i (some ⟨kLP pin κ, xs.eraseIdx j⟩)) (some ⟨κ, x⟩ :: D) σ (v :: vs) (upd H p (.lst (us.eraseIdx j))) Hs := by
  obtain ⟨p, us, SG, SD, Ss, e1, e2, e3, hpin, e4, e5, a, b, o⟩ := h.own (E := none) hg
  have nd := own_nodup o e5
  obtain ⟨np, np2⟩ := np_of nd
  obtain ⟨S, v, s1, s2, r⟩ := e4.get hj
  refine ⟨p, us, v, e1, e2, e4.len.2, s2, env_upd (S' := p :: (Ss.eraseIdx j).flatten) (SD := SD) (SD' := S :: SD) a o e5 List.mem_cons_self trivial e1 ⟨_, rfl, p, us.eraseIdx j, Ss.eraseIdx j, rfl, hpin, upd_same, ?_, rfl, (els_off e4 np2).erase j⟩ ⟨⟨v, rfl, ?_⟩, sls_off b np⟩ fun c => ?_⟩
  · exact Nat.le_trans (List.length_eraseIdx_le _ _) e3
  · exact κ.keep r (fun a ha o ho => by rw [upd_off np2 (List.mem_flatten.mpr ⟨S, List.mem_of_getElem? s1, ha⟩)]; exact ho) (Same.refl Hs)
  · have := count_erase (a := c) s1
    rw [List.flatten_cons, List.count_cons, List.count_cons, List.count_append]
    omega
end
end TM

set_option Elab.async false
set_option linter.all false
set_option maxRecDepth 100000
/-! TM8: calls of defs that change a list of the caller's. -/
namespace TM
open PySem L2

/-- behind a call that was handed the list of slot i: the caller's state -/
theorem call_back {K : Fg} {f : Fr} {G D Gr : List Slot} {σ σ' : St} {vs : List V} {H Hs Hv H' Hs' : Hp} {i : Nat} {SG SD : List (List Addr)} {S : List Addr} {p : Addr} {pin : Addr → Prop} {κ κr : Kd} {xs' : List κ.ty.T} {y : κr.ty.T} {v : V}
    (a : Sls K H Hs SG σ G) (b : Sls K H Hs SD (vs.map some) D) (o : Own f (SD.flatten ++ SG.flatten) H Hs) (hi : SG[i]? = some S) (hσ : σ[i]? = some (some (.ref p))) (hpin : pin p) (htr : (κ.Imm ∧ κr.Imm) ∨ Same Hv Hs)
    (hsv : ∀ a ∈ S, Hv a = none)
    (e : Env K ⟨H, Hv, S⟩ (some ⟨kLP (fun q => q = p) κ, xs'⟩ :: Gr) [some ⟨κr, y⟩] σ' [v] H' Hs') : ∃ Hs2, Env K f (G.set i (some ⟨kLP pin κ, xs'⟩)) (some ⟨κr, y⟩ :: D) σ (v :: vs) H' Hs2 := by
  obtain ⟨SGc, SDc, ac, bc, oc⟩ := e
  cases SDc with
  | nil => exact bc.elim
  | cons Sr SDc =>
  cases SGc with
  | nil => cases σ' <;> exact ac.elim
  | cons Sn SGc =>
  cases σ' with
  | nil => exact ac.elim
  | cons ov σ' =>
  obtain ⟨⟨u, eu, ru⟩, _⟩ := ac
  obtain ⟨u2, eu2, rr⟩ := bc.1
  cases eu2
  have ndc := nodup_count.mp oc.nodup
  have nd := nodup_count.mp o.nodup
  have cS : ∀ c, List.count c S ≤ List.count c SG.flatten := fun c => by
    have := count_set (a := c) (S' := []) hi
    simp only [List.count_nil] at this
    omega
  have inA : ∀ c ∈ S, c ∈ SD.flatten ++ SG.flatten := fun c m => List.mem_append_right _ (List.mem_flatten.mpr ⟨S, List.mem_of_getElem? hi, m⟩)
  have same : ∀ a o, H a = some o → a ∉ S → H' a = some o := fun a o e n => oc.pres a o e n
  -- the new view
  refine ⟨fun a => if (H a).isSome = true ∧ a ∉ S then Hs a else Hs' a, SG.set i Sn, Sr :: SD, ?_, ?_, ?_⟩
  all_goals
    have tr : ∀ {κ' : Kd}, (κ' = κ ∨ κ' = κr) → ∀ {S' : List Addr} {w : V} {z : κ'.ty.T}, κ'.rep K S' H' Hs' w z → κ'.rep K S' H' (fun a => if (H a).isSome = true ∧ a ∉ S then Hs a else Hs' a) w z := fun {κ'} hk {S' w z} r => by
      rcases htr with ⟨hκ, hr⟩ | hs
      · have hi : κ'.Imm := by
          rcases hk with e | e
          · rw [e]; exact hκ
          · rw [e]; exact hr
        refine hi (fun a u e n => ?_) r
        by_cases h1 : (H a).isSome = true ∧ a ∉ S
        · obtain ⟨u2, e2⟩ := Option.isSome_iff_exists.mp h1.1
          have e3 := same a u2 e2 h1.2
          rw [oc.view.sub a u e] at e3
          cases e3
          simp only [h1, if_true, not_false_eq_true, and_self]
          exact o.view.imm a u e2 n
        · simp only [h1, if_false]; exact e
      · refine κ'.keep r (fun _ _ _ e => e) fun a u e => ?_
        by_cases h1 : (H a).isSome = true ∧ a ∉ S
        · simp only [h1, if_true, not_false_eq_true, and_self]
          rcases oc.fresh a u e with z | z | z
          · exact hs a u z
          · have z' : H a = none := z
            rw [z'] at h1; exact absurd h1.1 (by simp)
          · exact (h1.2 z).elim
        · simp only [h1, if_false]; exact e
    have up : Same Hs (fun a => if (H a).isSome = true ∧ a ∉ S then Hs a else Hs' a) := fun a u e => by
      have h1 : (H a).isSome = true ∧ a ∉ S := ⟨by rw [o.view.sub a u e]; rfl, fun m => by rw [o.sep a (inA a m)] at e; cases e⟩
      simp only [h1, if_true, not_false_eq_true, and_self]; exact e
    have imm : ∀ a u, Hs' a = some u → ¬ Mut (some u) → (fun a => if (H a).isSome = true ∧ a ∉ S then Hs a else Hs' a) a = some u := fun a u e n => by
      by_cases h1 : (H a).isSome = true ∧ a ∉ S
      · obtain ⟨u2, e2⟩ := Option.isSome_iff_exists.mp h1.1
        have e3 := same a u2 e2 h1.2
        rw [oc.view.sub a u e] at e3
        cases e3
        simp only [h1, if_true, not_false_eq_true, and_self]
        exact o.view.imm a u e2 n
      · simp only [h1, if_false]; exact e
  · -- the slots
    have hnew : SlotOk K H' (fun a => if (H a).isSome = true ∧ a ∉ S then Hs a else Hs' a) Sn (some (.ref p)) (some ⟨kLP pin κ, xs'⟩) := by
      obtain ⟨q, us, Ss, e1, e2, e3, e4, e5, e6⟩ := ru
      subst e2
      exact ⟨_, rfl, q, us, Ss, rfl, hpin, e3, e4, e5, e6.imp fun _ _ _ _ r => tr (.inl rfl) r⟩
    have hset : σ.set i (some (.ref p)) = σ := by
      obtain ⟨hl, e⟩ := List.getElem?_eq_some_iff.mp hσ
      rw [← e]; exact List.set_getElem_self hl
    have key : ∀ {SG : List (List Addr)} {σ : List (Option V)} {G : List Slot} {i : Nat}, Sls K H Hs SG σ G → SG[i]? = some S → (∀ c, List.count c SG.flatten ≤ 1) → Sls K H' (fun a => if (H a).isSome = true ∧ a ∉ S then Hs a else Hs' a) (SG.set i Sn) (σ.set i (some (.ref p))) (G.set i (some ⟨kLP pin κ, xs'⟩)) := by
      intro SG
      induction SG with
      | nil => intro σ G i _ h; simp at h
      | cons T SG ih =>
        intro σ G i a h hc
        cases σ with
        | nil => exact a.elim
        | cons w σ =>
          cases G with
          | nil => exact a.elim
          | cons g G =>
            have hc' : ∀ c, List.count c T + List.count c SG.flatten ≤ 1 := fun c => by
              have := hc c
              rw [List.flatten_cons, List.count_append] at this
              exact this
            cases i with
            | zero =>
              simp at h
              subst h
              refine ⟨hnew, Sls.keep a.2 (fun c hm u e => same c u e fun m => ?_) up⟩
              have h1 := mem_count.mp hm
              have h2 := mem_count.mp m
              have := hc' c
              omega
            | succ i =>
              have h' : SG[i]? = some S := by simpa using h
              refine ⟨a.1.keep (fun c hm u e => same c u e fun m => ?_) up, ih a.2 h' fun c => by have := hc' c; omega⟩
              have h1 := mem_count.mp hm
              have h2 := mem_count.mp (List.mem_flatten.mpr ⟨S, List.mem_of_getElem? h', m⟩)
              have := hc' c
              omega
    have := key a hi fun c => by have := nd c; rw [List.count_append] at this; omega
    rw [hset] at this
    exact this
  · -- the temporary values
    refine ⟨⟨v, rfl, tr (.inr rfl) rr⟩, Sls.keep b (fun c hm u e => same c u e fun m => ?_) up⟩
    have h1 := mem_count.mp hm
    have h2 := mem_count.mp m
    have h3 := nd c
    have h4 := cS c
    rw [List.count_append] at h3
    omega
  · have hold : ∀ c, c ∈ (Sr :: SD).flatten ++ (SG.set i Sn).flatten → (c ∈ Sr ∨ c ∈ Sn) ∨ (c ∈ SD.flatten ++ SG.flatten ∧ c ∉ S) := fun c m => by
      by_cases h1 : c ∈ Sr ∨ c ∈ Sn
      · exact .inl h1
      · right
        have hn1 : List.count c Sr = 0 := List.count_eq_zero.mpr fun m => h1 (.inl m)
        have hn2 : List.count c Sn = 0 := List.count_eq_zero.mpr fun m => h1 (.inr m)
        have h2 := mem_count.mp m
        have h3 := count_set (a := c) (S' := Sn) hi
        rw [List.flatten_cons, List.count_append, List.count_append] at h2
        have h4 := nd c
        rw [List.count_append] at h4
        refine ⟨mem_count.mpr (by rw [List.count_append]; omega), fun m => ?_⟩
        have h5 := mem_count.mp m
        omega
    have hfr : ∀ c, c ∈ Sr ∨ c ∈ Sn → c ∈ S ∨ H c = none := fun c m => oc.orig c (by
      rw [List.flatten_cons, List.flatten_cons]
      rcases m with m | m
      · exact List.mem_append_left _ (List.mem_append_left _ m)
      · exact List.mem_append_right _ (List.mem_append_left _ m))
    have hin : ∀ c, c ∈ Sr ∨ c ∈ Sn → c ∈ (Sr :: SDc).flatten ++ (Sn :: SGc).flatten := fun c m => by
      rw [List.flatten_cons, List.flatten_cons]
      rcases m with m | m
      · exact List.mem_append_left _ (List.mem_append_left _ m)
      · exact List.mem_append_right _ (List.mem_append_left _ m)
    refine ⟨nodup_count.mpr fun c => ?_, fun c m => ?_, fun c m => ?_, ⟨fun c u e => ?_, fun c u e n => imm c u (oc.view.imm c u e n) n⟩, fun c m => ?_, o.grow.trans up, fun c u e => ?_, fun c u e n => ?_, fun c u e => ?_⟩
    · have h3 := count_set (a := c) (S' := Sn) hi
      have h4 := nd c
      rw [List.count_append] at h4
      have h5 := ndc c
      rw [List.flatten_cons, List.flatten_cons, List.count_append, List.count_append, List.count_append] at h5
      rw [List.flatten_cons, List.count_append, List.count_append]
      by_cases h1 : c ∈ Sr ∨ c ∈ Sn
      · rcases hfr c h1 with m | m
        · have := mem_count.mp m
          have := cS c
          omega
        · have hz : List.count c SD.flatten + List.count c SG.flatten = 0 := by
            rw [← List.count_append]
            refine List.count_eq_zero.mpr fun mm => ?_
            obtain ⟨u, e, _⟩ := o.live c mm
            rw [m] at e; cases e
          omega
      · have hn1 : List.count c Sr = 0 := List.count_eq_zero.mpr fun m => h1 (.inl m)
        have hn2 : List.count c Sn = 0 := List.count_eq_zero.mpr fun m => h1 (.inr m)
        omega
    · rcases hold c m with m | ⟨m, _⟩
      · rcases hfr c m with m | m
        · exact o.orig c (inA c m)
        · exact .inr (o.free0 m)
      · exact o.orig c m
    · rcases hold c m with m | ⟨m, n⟩
      · exact oc.live c (hin c m)
      · obtain ⟨u, e, k⟩ := o.live c m
        exact ⟨u, same c u e n, k⟩
    · by_cases h1 : (H c).isSome = true ∧ c ∉ S
      · simp only [h1, if_true, not_false_eq_true, and_self] at e
        exact same c u (o.view.sub c u e) h1.2
      · simp only [h1, if_false] at e
        exact oc.view.sub c u e
    · rcases hold c m with m | ⟨m, n⟩
      · have h1 : ¬ ((H c).isSome = true ∧ c ∉ S) := fun h => by
          rcases hfr c m with m | m
          · exact h.2 m
          · rw [m] at h; cases h.1
        simp only [h1, if_false]
        exact oc.sep c (hin c m)
      · by_cases h1 : (H c).isSome = true ∧ c ∉ S
        · simp only [h1, if_true, not_false_eq_true, and_self]
          exact o.sep c m
        · obtain ⟨u, e, _⟩ := o.live c m
          exact (h1 ⟨by rw [e]; rfl, n⟩).elim
    · by_cases h1 : (H c).isSome = true ∧ c ∉ S
      · simp only [h1, if_true, not_false_eq_true, and_self] at e
        exact o.fresh c u e
      · by_cases h2 : c ∈ S
        · rcases o.orig c (inA c h2) with z | z
          · exact .inr (.inr z)
          · exact .inr (.inl z)
        · have : H c = none := by
            cases q : H c with
            | none => rfl
            | some w => exact (h1 ⟨by rw [q]; rfl, h2⟩).elim
          exact .inr (.inl (o.free0 this))
    · refine same c u (o.pres c u e n) fun m => ?_
      rcases o.orig c (inA c m) with z | z
      · exact n z
      · rw [z] at e; cases e
    · obtain ⟨u2, e2⟩ := o.dom c u e
      exact oc.dom c u2 e2
end TM

set_option Elab.async false
set_option linter.all false
set_option maxRecDepth 100000
/-! TM9: stores, methods of one's own lists, calls that change a list. -/
namespace TM
open PySem L2

def appR {α : Type} (xs : List α) (x : α) : Res (List α) := gate (xs.length < sizeLine) (xs ++ [x])
def setR {α : Type} (xs : List α) (i : Int) (x : α) : Res (List α) := match ixN xs.length i with
  | some j => .ok (xs.set j x)
  | none => .bad
def insR {α : Type} (xs : List α) (i : Int) (x : α) : Res (List α) := gate (xs.length < sizeLine ∧ 0 ≤ i ∧ i.toNat ≤ xs.length) (xs.take i.toNat ++ [x] ++ xs.drop i.toNat)
def popR {α : Type} (xs : List α) (i : Int) : Res (List α × α) := match ixN xs.length i with
  | some j => match xs[j]? with
    | some x => .ok (xs.eraseIdx j, x)
    | none => .bad
  | none => .bad
def popE {α : Type} (xs : List α) : Res (List α × α) := match xs[xs.length - 1]? with
  | some x => .ok (xs.dropLast, x)
  | none => .bad
theorem erase_last {α : Type} (l : List α) : l.eraseIdx (l.length - 1) = l.dropLast := by
  rw [List.eraseIdx_eq_take_drop_succ, List.dropLast_eq_take]
  cases l with
  | nil => rfl
  | cons a l => simp
theorem ixN_lt {n : Nat} {i : Int} {j : Nat} (h : ixN n i = some j) : j < n := (ixN_seq h).2.1

section
variable {B : Bd} {G : List Slot} {e e1 e2 : Expr} {τ : Ty} {κ κ' : Kd} {pos pos' p apos cpos : Pos} {rest : List Stmt} {α β γ : Type} {fin : α → Fin} {pin : Addr → Prop} {n : Str}
/-- name = e -/
theorem bj_set (i : Nat) {m1 : Res β} {G1 : β → List Slot} {v : β → κ.ty.T} {m2 : β → Res α} (hN : B.N.Nodup) (hi : B.N[i]? = some n) (hx : Loc B.sc n) (he : EJ B G e m1 G1 κ v)
    (hr : ∀ b, BJ B ((G1 b).set i (some ⟨κ, v b⟩)) rest (m2 b) fin) (hs : ∀ env, swapsWith e (some (.Name n pos')) pos.line env = pure false := by intro _; rfl) : BJ B G (.Assign [.Name n pos'] e pos :: rest) (m1.bind m2) fin :=
  bj_asg i hN hi hx (.inr trivial) he hr fun X ok te h => ps_set (by rw [ok.N]; exact hN) (by rw [ok.N]; exact hi) (by rw [ok.sc]; exact hx) h (hs X.env) (.inl (ok.fn n))
theorem own_var {K : Fg} {f : Fr} {D : List Slot} {σ : St} {vs : List V} {H Hs : Hp} {G : List Slot} {i : Nat} {xs : List κ.ty.T} (h : Env K f G D σ vs H Hs) (hg : G[i]? = some (some ⟨kLP pin κ, xs⟩)) : ∃ p us, σ[i]? = some (some (.ref p)) ∧ H p = some (.lst us) := by
  obtain ⟨p, us, _, _, _, e1, e2, _⟩ := h.own (E := none) hg
  exact ⟨p, us, e1, e2⟩
/-- xs.append(e) -/
theorem ej_append (i : Nat) {m1 : Res β} {G1 : β → List Slot} {v : β → κ.ty.T} {xs0 : List κ.ty.T} {xs : β → List κ.ty.T} (hi : B.N[i]? = some n) (hv : Vis B.sc n) (hg0 : G[i]? = some (some ⟨kLP pin κ, xs0⟩)) (he : EJ B G e m1 G1 κ v) (hg : ∀ b, (G1 b)[i]? = some (some ⟨kLP pin κ, xs b⟩))
    (hd : (n == ("__debug__" : Str)) = false := by decide) (hcd : (n == ("__classdict__" : Str)) = false := by decide) 
    (hb : ∀ env, attributeBase (.Name n p) "append" env (eval (.Name n p) env) = eval (.Name n p) env := by intro _; rfl)
    (hfew : ∀ env, ((backTo cpos (starEach [e] env)).all (fun x => !x.1) && (backToKw cpos (keywordEach [] env)).all (fun x => x.1.isSome) && decide (([e] : List Expr).length + ([] : List Keyword).length + (if ([] : List Keyword).isEmpty then 0 else 1) < 30)) = true := by intro _; rfl)
    (hline : (apos.endLine == cpos.line) = true := by rfl) (hst : ∀ env, starEach [e] env = (false, eval e env) :: starEach [] env := by intro _; rfl) :
    EJ B G (.Call (.Attribute (.Name n p) "append" apos) [e] [] cpos) (m1.bind fun b => (appR (xs b) (v b)).bind fun ys => .ok (b, ys)) (fun c => (G1 c.1).set i (some ⟨kLP pin κ, c.2⟩)) (kVal tNone) fun _ => () := fun X W ok tk => by
  refine pe_imp (pe_bm PySem.F.plainAttrs_list PySem.F.slot_list_append PySem.F.type_list_append mt_append (pe_var (i := i) (by rw [ok.N]; exact hi) (by rw [ok.sc]; exact hv) hd hcd) (pa_cons (he X W ok tk) pa_nil (hst X.env)) (hb X.env) (hfew X.env) hline (hst X.env) rfl) fun σ H Q ⟨f, xok, D, vs, Hs, xs', env, q⟩ => ?_
  obtain ⟨p0, us0, e1, e2⟩ := own_var env hg0
  refine ⟨_, e1, .inl ⟨rfl, us0, SqL.of e2⟩, ?_⟩
  refine ⟨f, xok, D, vs, Hs, xs', env, Res.wp_mono (Res.wp_bind.mp q) fun b k u H1 Hs1 env1 => ?_⟩
  unfold appR gate at k
  by_cases hl : (xs b).length < sizeLine
  · rw [if_pos hl] at k
    obtain ⟨p1, us1, f1, f2, f3, env2⟩ := env1.append (hg b) hl
    rw [e1] at f1
    cases f1
    refine ⟨p0, us1, u, rfl, rfl, f2, by rw [f3]; exact hl, ?_⟩
    exact k .non _ Hs1 (env2.push (S := []) (Grow.refl env2.view) ⟨rfl, rfl⟩ ⟨.nil, fun _ z => (List.not_mem_nil z).elim, fun _ z => (List.not_mem_nil z).elim, fun _ z => (List.not_mem_nil z).elim⟩)
  · rw [if_neg hl] at k
    exact k.elim
/-- xs.pop() -/
theorem ej_pop (i : Nat) {xs : List κ.ty.T} (hi : B.N[i]? = some n) (hv : Vis B.sc n) (hg : G[i]? = some (some ⟨kLP pin κ, xs⟩))
    (hd : (n == ("__debug__" : Str)) = false := by decide) (hcd : (n == ("__classdict__" : Str)) = false := by decide) (hb : ∀ env, attributeBase (.Name n p) "pop" env (eval (.Name n p) env) = eval (.Name n p) env := by intro _; rfl)
    (hline : (apos.endLine == cpos.line) = true := by rfl) :
    EJ B G (.Call (.Attribute (.Name n p) "pop" apos) [] [] cpos) (popE xs) (fun c => G.set i (some ⟨kLP pin κ, c.1⟩)) κ fun c => c.2 := fun X W ok tk => by
  refine pe_imp (pe_bm0 PySem.F.plainAttrs_list PySem.F.slot_list_pop PySem.F.type_list_pop mt_pop (pe_var (i := i) (by rw [ok.N]; exact hi) (by rw [ok.sc]; exact hv) hd hcd) (hb X.env) hline) fun σ H Q ⟨f, xok, D, vs, Hs, xs', env, q⟩ => ?_
  obtain ⟨p0, us0, e1, e2⟩ := own_var env hg
  refine ⟨_, e1, .inl ⟨rfl, us0, SqL.of e2⟩, ?_⟩
  unfold popE at q
  cases hx : xs[xs.length - 1]? with
  | none => rw [hx] at q; exact q.elim
  | some x =>
    rw [hx] at q
    obtain ⟨p1, us1, u, f1, f2, f3, f4, env2⟩ := env.popAt hg hx
    rw [e1] at f1
    cases f1
    have ed : us1.eraseIdx (xs.length - 1) = us1.dropLast := by rw [← f3, erase_last]
    have ed2 : xs.eraseIdx (xs.length - 1) = xs.dropLast := erase_last xs
    rw [ed, ed2] at env2
    exact ⟨p0, us1, u, rfl, rfl, f2, by rw [f3]; exact f4, q u _ Hs env2⟩
/-- xs.pop(e) -/
theorem ej_popAt (i : Nat) {m1 : Res β} {G1 : β → List Slot} {k : β → Int} {xs0 : List κ.ty.T} {xs : β → List κ.ty.T} (hi : B.N[i]? = some n) (hv : Vis B.sc n) (hg0 : G[i]? = some (some ⟨kLP pin κ, xs0⟩)) (he : EJ B G e m1 G1 (kVal tInt) k) (hg : ∀ b, (G1 b)[i]? = some (some ⟨kLP pin κ, xs b⟩))
    (hd : (n == ("__debug__" : Str)) = false := by decide) (hcd : (n == ("__classdict__" : Str)) = false := by decide) 
    (hb : ∀ env, attributeBase (.Name n p) "pop" env (eval (.Name n p) env) = eval (.Name n p) env := by intro _; rfl)
    (hfew : ∀ env, ((backTo cpos (starEach [e] env)).all (fun x => !x.1) && (backToKw cpos (keywordEach [] env)).all (fun x => x.1.isSome) && decide (([e] : List Expr).length + ([] : List Keyword).length + (if ([] : List Keyword).isEmpty then 0 else 1) < 30)) = true := by intro _; rfl)
    (hline : (apos.endLine == cpos.line) = true := by rfl) (hst : ∀ env, starEach [e] env = (false, eval e env) :: starEach [] env := by intro _; rfl) :
    EJ B G (.Call (.Attribute (.Name n p) "pop" apos) [e] [] cpos) (m1.bind fun b => (popR (xs b) (k b)).bind fun r => .ok (b, r)) (fun c => (G1 c.1).set i (some ⟨kLP pin κ, c.2.1⟩)) κ fun c => c.2.2 := fun X W ok tk => by
  refine pe_imp (pe_bm PySem.F.plainAttrs_list PySem.F.slot_list_pop PySem.F.type_list_pop mt_popAt (pe_var (i := i) (by rw [ok.N]; exact hi) (by rw [ok.sc]; exact hv) hd hcd) (pa_cons (he X W ok tk) pa_nil (hst X.env)) (hb X.env) (hfew X.env) hline (hst X.env) rfl) fun σ H Q ⟨f, xok, D, vs, Hs, xs', env, q⟩ => ?_
  obtain ⟨p0, us0, e1, e2⟩ := own_var env hg0
  refine ⟨_, e1, .inl ⟨rfl, us0, SqL.of e2⟩, ?_⟩
  refine ⟨f, xok, D, vs, Hs, xs', env, Res.wp_mono (Res.wp_bind.mp q) fun b k1 u H1 Hs1 env1 => ?_⟩
  have hu : u = .int (k b) := by
    obtain ⟨_, SD, _, bb, _⟩ := id env1
    cases SD with
    | nil => exact bb.elim
    | cons S SD =>
      obtain ⟨w, ew, _, r⟩ := bb.1
      cases ew
      exact r
  subst hu
  unfold popR at k1
  cases hj : ixN (xs b).length (k b) with
  | none => rw [hj] at k1; exact k1.elim
  | some j =>
    rw [hj] at k1
    cases hx : (xs b)[j]? with
    | none => simp only [hx] at k1; exact k1.elim
    | some x =>
      simp only [hx] at k1
      obtain ⟨p1, us1, w, f1, f2, f3, f4, env2⟩ := env1.pop.popAt (hg b) hx
      rw [e1] at f1
      cases f1
      obtain ⟨s1, s2, s3, s4⟩ := ixN_seq hj
      have hz : (xs b).length ≤ sizeLine := by
        obtain ⟨_, _, _, _, _, _, _, hz, _⟩ := env1.own (E := none) (hg b)
        exact hz
      have hzz : sizeLine < 2 ^ 62 := by decide
      refine ⟨p0, us1, k b, j, w, rfl, rfl, f2, by omega, by omega, by rw [f3]; exact s1, f4, k1 w _ Hs1 env2⟩
/-- xs[i] = e, xs a name -/
theorem bj_setIx (i : Nat) {m1 : Res β} {G1 : β → List Slot} {v : β → κ.ty.T} {m2 : β → Res γ} {G2 : β → γ → List Slot} {k : γ → Int} {xs0 : List κ.ty.T} {xs : β → γ → List κ.ty.T} {ζ : Type} {finz : ζ → Fin} {m3 : β → γ → List κ.ty.T → Res ζ} {tpos npos : Pos} (hi : B.N[i]? = some n) (hv : Vis B.sc n) (hg0 : G[i]? = some (some ⟨kLP pin κ, xs0⟩))
    (he : EJ B G e m1 G1 κ v) (hk : ∀ b, EJ B (G1 b) e1 (m2 b) (G2 b) (kVal tInt) k) (hg : ∀ b c, (G2 b c)[i]? = some (some ⟨kLP pin κ, xs b c⟩))
    (hr : ∀ b c (ys : List κ.ty.T), BJ B ((G2 b c).set i (some ⟨kLP pin κ, ys⟩)) rest (m3 b c ys) finz)
    (hd : (n == ("__debug__" : Str)) = false := by decide) (hcd : (n == ("__classdict__" : Str)) = false := by decide)
    (hsw : ∀ env, swapsWithSole [.Subscript (.Name n npos) e1 tpos] e pos.line env = pure false := by intro _; rfl) (hw : ∀ env, swappedStores [.Subscript (.Name n npos) e1 tpos] e env = pure none := by intro _; rfl)
    (h1 : ∀ env, (assignEach [.Subscript (.Name n npos) e1 tpos] env).map (·.2) = [assign (.Subscript (.Name n npos) e1 tpos) env] := by intro _; rfl)
    (ha : ∀ env v, assign (.Subscript (.Name n npos) e1 tpos) env v = (do
      let ov ← holding [v] (eval (.Name n npos) env)
      let iv ← holding [v, ov] (eval e1 env)
      standAt tpos
      holding [v, ov, iv] (setItem ov iv v)
      release [v, ov, iv] []) := by intro _ _; rfl) :
    BJ B G (.Assign [.Subscript (.Name n npos) e1 tpos] e pos :: rest) (m1.bind fun b => (m2 b).bind fun c => (setR (xs b c) (k c) (v b)).bind (m3 b c)) finz := fun X W ok tk => by
  have hk' : PE X e1 (fun σ H Q => ∃ b, ∃ f xok D vs Hs, XS B f xok W ∧ Env B.K f (G1 b) D σ vs H Hs ∧ (m2 b).wp xok fun c => ∀ u H' Hs', Env B.K f (G2 b c) (some ⟨kVal tInt, k c⟩ :: D) σ (u :: vs) H' Hs' → Q u H') := pe_ex fun b => hk b X W ok.toCxOk tk
  refine pss_imp (pss_cons (ps_asg (he X W ok.toCxOk tk) (pg_sub (pe_var (i := i) (by rw [ok.N]; exact hi) (by rw [ok.sc]; exact hv) hd hcd) hk' set_list (ha X.env)) (hsw X.env) (hw X.env) (h1 X.env)) (pss_ex fun b => pss_ex fun c => pss_ex fun ys => hr b c ys X W ok tk)) fun D σ H ⟨f, xok, Hs, xs', env, q⟩ => ?_
  obtain ⟨p0, us0, e1', _⟩ := own_var env hg0
  refine ⟨f, xok, [], [], Hs, xs', env, Res.wp_mono (Res.wp_bind.mp q) fun b k1 u H1 Hs1 env1 => ?_⟩
  refine ⟨_, e1', b, f, xok, [some ⟨κ, v b⟩], [u], Hs1, xs', env1, Res.wp_mono (Res.wp_bind.mp k1) fun c k2 w H2 Hs2 env2 => ?_⟩
  have hu : w = .int (k c) := by
    obtain ⟨_, SD, _, bb, _⟩ := id env2
    cases SD with
    | nil => exact bb.elim
    | cons S SD =>
      obtain ⟨w, ew, _, r⟩ := bb.1
      cases ew
      exact r
  subst hu
  unfold setR at k2
  cases hj : ixN (xs b c).length (k c) with
  | none => rw [hj] at k2; exact k2.elim
  | some j =>
    rw [hj] at k2
    obtain ⟨p1, us1, f1, f2, f3, env3⟩ := env2.pop.setAt (hg b c) (ixN_lt hj)
    rw [e1'] at f1
    cases f1
    exact ⟨p0, us1, k c, j, rfl, rfl, f2, by rw [f3]; exact hj, b, c, _, f, xok, Hs2, xs', env3, k2⟩
end
end TM

set_option Elab.async false
set_option linter.all false
set_option maxRecDepth 100000
/-! TM10: the calls f(xs, ..) that change the list xs. -/
namespace TM
open PySem L2

theorem vhide {K : Fg} {f : Fr} {G : List Slot} {σ : St} {H Hs : Hp} {SG SD : List (List Addr)} {i : Nat} {S : List Addr} (a : Sls K H Hs SG σ G) (o : Own f (SD.flatten ++ SG.flatten) H Hs) (hi : SG[i]? = some S) : VEnv K (fun a => if a ∈ S then none else H a) (G.set i none) σ := by
  refine ⟨by rw [List.length_set, a.len.2], fun j p hj => ?_⟩
  by_cases hji : j = i
  · subst hji
    have hlt : j < G.length := by
      have := (List.getElem?_eq_some_iff.mp hi).1
      rw [a.len.1] at this
      exact this
    rw [List.getElem?_set_self hlt] at hj
    cases hj
  · rw [List.getElem?_set_ne (Ne.symm hji)] at hj
    obtain ⟨T, ov, e1, e2, v, e3, r⟩ := a.get hj
    refine ⟨v, by rw [e2, e3], p.κ.thaw r (fun c u e => ?_) fun c m u e => ?_⟩
    · have : c ∉ S := fun m => by
        rw [o.sep c (List.mem_append_right _ (List.mem_flatten.mpr ⟨S, List.mem_of_getElem? hi, m⟩))] at e
        cases e
      simp only [this, if_false]
      exact o.view.sub c u e
    · have : c ∉ S := fun m2 => by
        have nd := nodup_count.mp o.nodup c
        rw [List.count_append] at nd
        have h1 := count_set (a := c) (S' := []) hi
        have e1' : (SG.set i [])[j]? = some T := by rw [List.getElem?_set_ne (Ne.symm hji)]; exact e1
        have h2 := count_set (a := c) (S' := []) e1'
        have h3 := mem_count.mp m
        have h4 := mem_count.mp m2
        simp only [List.count_nil] at h1 h2
        omega
      simp only [this, if_false]
      exact e
theorem hide_view {f : Fr} {A S : List Addr} {H Hs : Hp} (o : Own f A H Hs) (hs : ∀ a ∈ S, a ∈ A) : View H (fun a => if a ∈ S then none else H a) := ⟨fun a u e => by
  by_cases h : a ∈ S
  · simp [h] at e
  · simpa [h] using e, fun a u e n => by
  by_cases h : a ∈ S
  · obtain ⟨u2, e2, m⟩ := o.live a (hs a h)
    rw [e] at e2; cases e2
    exact (n m).elim
  · simpa [h] using e⟩
section
variable {B : Bd} {G : List Slot} {τ : Ty} {κ κr : Kd} {pos p q : Pos} {β γ A : Type} {pin : Addr → Prop} {n x : Str} {es : List Expr} {ps : List Str} {xs : List κ.ty.T}
/-- the callee's state at its start -/
theorem call_start {K : Fg} {f : Fr} {ws : List V} {H Hs Hv : Hp} {SG SD : List (List Addr)} {Ss : List (List Addr)} {i : Nat} {p0 : Addr} {us : List V} {out : List (Σ τ : Ty, τ.T)}
    (o : Own f (SD.flatten ++ SG.flatten) H Hs) (hi : SG[i]? = some (p0 :: Ss.flatten)) (hp : H p0 = some (.lst us)) (hl : xs.length ≤ sizeLine) (hel : Els (fun S v x => κ.rep K S H Hs v x) Ss us xs) (v : View H Hv) (up : Same Hs Hv) (hsv : ∀ a ∈ p0 :: Ss.flatten, Hv a = none)
    (rs : stab_sls K Hv ws out) : Env K ⟨H, Hv, p0 :: Ss.flatten⟩ (some ⟨kLP (fun q => q = p0) κ, xs⟩ :: svs out) [] (some (.ref p0) :: ws.map some) [] H Hv := by
  have inA : ∀ c ∈ p0 :: Ss.flatten, c ∈ SD.flatten ++ SG.flatten := fun c m => List.mem_append_right _ (List.mem_flatten.mpr ⟨_, List.mem_of_getElem? hi, m⟩)
  refine ⟨(p0 :: Ss.flatten) :: List.replicate ws.length [], [], ⟨⟨_, rfl, p0, us, Ss, rfl, rfl, hp, hl, rfl, hel.imp fun S v x _ r => κ.keep r (fun _ _ _ e => e) up⟩, sls_of rs⟩, trivial, ?_⟩
  have hnd : (p0 :: Ss.flatten).Nodup := nodup_count.mpr fun c => by
    have := own_nodup o hi c
    omega
  rw [List.flatten_cons, flatten_nils, List.append_nil]
  exact ⟨hnd, fun a m => .inl m, fun a m => o.live a (inA a m), v, hsv, Same.refl Hv, fun _ _ e => .inl e, fun _ _ e _ => e, fun _ _ e => ⟨_, e⟩⟩
/-- f(xs, e, ..): the other arguments are pure -/
theorem ej_callM (i : Nat) {Gp : (Nat → Addr) → A → List Slot} {F : A → Res β} {Gr : (Nat → Addr) → β → List Slot} {zs : β → List κ.ty.T} {y : β → κr.ty.T} {k : Nat} {ma : Res γ} {out : γ → List (Σ τ : Ty, τ.T)} {arg : γ → A}
    (fn : FnAt B n ps (SpOf B.K B.mg k Gp F (fun pn b => some ⟨kLP (fun q => q = pn 0) κ, zs b⟩ :: Gr pn b) κr y)) (hκ : κ.Imm) (hr : κr.Imm) (hgl : B.sc.names.lookup n = some .globalImplicit)
    (hi : B.N[i]? = some x) (hv : Vis B.sc x) (hg : G[i]? = some (some ⟨kLP pin κ, xs⟩)) (ha : AJ B (G.set i none) es ma out) (hs : ∀ pn c, Gp pn (arg c) = some ⟨kLP (fun q => q = pn 0) κ, xs⟩ :: svs (out c)) (hk : ∀ c, (out c).length + 1 = k)
    (hd : (x == ("__debug__" : Str)) = false := by decide) (hcd : (x == ("__classdict__" : Str)) = false := by decide)
    (hdb : (n == ("__debug__" : Str)) = false := by decide) (he : ∀ env, starEach (.Name x q :: es) env = (false, eval (.Name x q) env) :: starEach es env := by intro _; rfl) (hpl : ∀ env, (backTo pos (starEach es env)).any (·.1) = false := by intro _; rfl) (hcalm : B.calm = true := by rfl) :
    EJ B G (.Call (.Name n p) (.Name x q :: es) [] pos) (ma.bind fun c => F (arg c)) (fun b => G.set i (some ⟨kLP pin κ, zs b⟩)) κr y := fun X W ok tk => by
  obtain ⟨f, fd, j, hj, fo, hm, hkp, hb⟩ := fn.ex
  obtain ⟨ta, a1, a2⟩ := ha
  refine pe_imp (pe_callS (ok.fn fo) ((ok.room hcalm).mono hj) (by show X.env.scope.names.lookup n = _; rw [ok.sc]; exact hgl) (by rw [ok.mg]; exact hm) (by rw [ok.K]; exact hkp) (by rw [ok.K]; exact hb)
    (fun σ => passAt tk σ) (pa_cons (pe_var (i := i) (by rw [ok.N]; exact hi) (by rw [ok.sc]; exact hv) hd hcd) (a1 X W ok tk) (he X.env)) hdb (he X.env) (hpl X.env)) fun σ H Q ⟨fr, xok, D, vs, Hs, xss, env, q⟩ => ?_
  obtain ⟨p0, us, SG, SD, Ss, e1, e2, e3, hpin, e4, e5, a, b, o⟩ := env.own (E := none) hg
  have inA : ∀ c ∈ p0 :: Ss.flatten, c ∈ SD.flatten ++ SG.flatten := fun c m => List.mem_append_right _ (List.mem_flatten.mpr ⟨_, List.mem_of_getElem? e5, m⟩)
  refine ⟨_, e1, ?_⟩
  refine a2 W xok σ H _ _ (hide_view o inA) (vhide a o e5) (xss.xw env) (Res.wp_mono (Res.wp_bind.mp q) fun c k2 ws H1 Hv1 g1 rs => ?_)
  -- the caller's own view behind the arguments
  have gH : Grow H Hs H1 (fun a => if (H a).isSome = true then Hs a else Hv1 a) := by
    refine ⟨g1.same, ⟨fun a u e => ?_, fun a u e n => ?_⟩, fun a u e => ?_, fun a u e => ?_⟩
    · by_cases h : (H a).isSome = true
      · simp only [h, if_true] at e; exact g1.same a u (o.view.sub a u e)
      · simp only [h] at e; exact g1.view.sub a u e
    · by_cases h : (H a).isSome = true
      · simp only [h, if_true]
        obtain ⟨u2, e2⟩ := Option.isSome_iff_exists.mp h
        have e3 := g1.same a u2 e2
        rw [e] at e3; cases e3
        exact o.view.imm a u e2 n
      · simp only [h]; exact g1.view.imm a u e n
    · have h : (H a).isSome = true := by rw [o.view.sub a u e]; rfl
      simp only [h, if_true]; exact e
    · by_cases h : (H a).isSome = true
      · simp only [h, if_true] at e; exact .inl e
      · simp at h; exact .inr h
  have up0 : Same Hs Hv1 := fun c u e => g1.up c u (by
    have : c ∉ p0 :: Ss.flatten := fun m => by rw [o.sep c (inA c m)] at e; cases e
    simp only [this, if_false]; exact o.view.sub c u e)
  have up : Same (fun a => if (H a).isSome = true then Hs a else Hv1 a) Hv1 := fun c u e => by
    by_cases h : (H c).isSome = true
    · simp only [h, if_true] at e; exact up0 c u e
    · simp only [h] at e; exact e
  have hsv : ∀ c ∈ p0 :: Ss.flatten, Hv1 c = none := fun c m => by
    cases h : Hv1 c with
    | none => rfl
    | some u =>
      obtain ⟨u2, e2, _⟩ := o.live c (inA c m)
      rcases g1.fresh c u h with z | z
      · simp [m] at z
      · rw [e2] at z; cases z
  have o1 := o.grown gH
  have a1' : Sls B.K H1 (fun a => if (H a).isSome = true then Hs a else Hv1 a) SG σ G := a.keep (fun c _ u e => g1.same c u e) gH.up
  have b1' : Sls B.K H1 (fun a => if (H a).isSome = true then Hs a else Hv1 a) SD (vs.map some) D := b.keep (fun c _ u e => g1.same c u e) gH.up
  have hel : Els (fun S v x => κ.rep B.K S H1 (fun a => if (H a).isSome = true then Hs a else Hv1 a) v x) Ss us xs := e4.imp fun S v x _ r => κ.keep r (fun c _ u e => g1.same c u e) gH.up
  refine ⟨by rw [List.length_cons, rs.len2]; exact hk c, fun _ => p0, arg c, p0 :: Ss.flatten, Hv1, xok, ?_, ?_, ?_⟩
  · rw [hs]
    exact call_start o1 e5 (g1.same _ _ e2) e3 hel g1.view up hsv rs
  · refine fun ex hx cls d H' s r => xss ex hx σ cls d H' (fun c u e n => s c u (g1.same c u (env.pres c u e n)) fun m => ?_) r
    rcases o.orig c (inA c m) with z | z
    · exact n z
    · rw [z] at e; cases e
  · refine Res.wp_mono k2 fun bb k3 u σ' H' Hs' env' => ?_
    obtain ⟨Hs2, env2⟩ := call_back a1' b1' o1 e5 e1 hpin (.inl ⟨hκ, hr⟩) hsv env'
    exact k3 u H' Hs2 env2
/-- f(xs, e): the other argument may change things, too; it is flat -/
theorem ej_callE (i : Nat) {e : Expr} {Gp : (Nat → Addr) → A → List Slot} {F : A → Res β} {Gr : (Nat → Addr) → β → List Slot} {zs : β → List κ.ty.T} {y : β → κr.ty.T} {m1 : Res γ} {G1 : γ → List Slot} {v : γ → τ.T} {arg : γ → A} {xs : γ → List κ.ty.T} {xs0 : List κ.ty.T}
    (fn : FnAt B n ps (SpOf B.K B.mg 2 Gp F (fun pn b => some ⟨kLP (fun q => q = pn 0) κ, zs b⟩ :: Gr pn b) κr y)) (hκ : κ.Imm) (hr : κr.Imm) (hf : τ.Flat) (hgl : B.sc.names.lookup n = some .globalImplicit)
    (hi : B.N[i]? = some x) (hv : Vis B.sc x) (hg0 : G[i]? = some (some ⟨kLP pin κ, xs0⟩)) (he : EJ B G e m1 G1 (kVal τ) v) (hg : ∀ c, (G1 c)[i]? = some (some ⟨kLP pin κ, xs c⟩)) (hs : ∀ pn c, Gp pn (arg c) = [some ⟨kLP (fun q => q = pn 0) κ, xs c⟩, sv τ (v c)])
    (hd : (x == ("__debug__" : Str)) = false := by decide) (hcd : (x == ("__classdict__" : Str)) = false := by decide)
    (hdb : (n == ("__debug__" : Str)) = false := by decide) (hst : ∀ env, starEach [.Name x q, e] env = (false, eval (.Name x q) env) :: starEach [e] env := by intro _; rfl) (hst1 : ∀ env, starEach [e] env = (false, eval e env) :: starEach [] env := by intro _; rfl) (hpl : ∀ env, (backTo pos (starEach [e] env)).any (·.1) = false := by intro _; rfl) (hcalm : B.calm = true := by rfl) :
    EJ B G (.Call (.Name n p) [.Name x q, e] [] pos) (m1.bind fun c => (F (arg c)).bind fun b => .ok (c, b)) (fun r => (G1 r.1).set i (some ⟨kLP pin κ, zs r.2⟩)) κr fun r => y r.2 := fun X W ok tk => by
  obtain ⟨f, fd, j, hj, fo, hm, hkp, hb⟩ := fn.ex
  refine pe_imp (pe_callS (ok.fn fo) ((ok.room hcalm).mono hj) (by show X.env.scope.names.lookup n = _; rw [ok.sc]; exact hgl) (by rw [ok.mg]; exact hm) (by rw [ok.K]; exact hkp) (by rw [ok.K]; exact hb)
    (fun σ => passAt tk σ) (pa_cons (pe_var (i := i) (by rw [ok.N]; exact hi) (by rw [ok.sc]; exact hv) hd hcd) (pa_cons (he X W ok tk) pa_nil (hst1 X.env)) (hst X.env)) hdb (hst X.env) (hpl X.env)) fun σ H Q ⟨fr, xok, D, vs, Hs, xss, env, q⟩ => ?_
  obtain ⟨p0, us0, e1, _⟩ := own_var env hg0
  refine ⟨_, e1, fr, xok, D, vs, Hs, xss, env, Res.wp_mono (Res.wp_bind.mp q) fun c k1 w H1 Hs1 env1 => ?_⟩
  have hw : ∀ Hx, τ.rep B.K Hx w (v c) := fun Hx => by
    obtain ⟨_, SD, _, bb, _⟩ := id env1
    cases SD with
    | nil => exact bb.elim
    | cons S SD =>
      obtain ⟨w, ew, _, r⟩ := bb.1
      cases ew
      exact hf r
  have env2 := env1.pop
  obtain ⟨p1, us, SG, SD, Ss, f1, e2, e3, hpin, e4, e5, a, b, o⟩ := env2.own (E := none) (hg c)
  rw [e1] at f1
  cases f1
  have inA : ∀ d ∈ p0 :: Ss.flatten, d ∈ SD.flatten ++ SG.flatten := fun d m => List.mem_append_right _ (List.mem_flatten.mpr ⟨_, List.mem_of_getElem? e5, m⟩)
  have up : Same Hs1 (fun d => if d ∈ p0 :: Ss.flatten then none else H1 d) := fun d u e => by
    have : d ∉ p0 :: Ss.flatten := fun m => by rw [o.sep d (inA d m)] at e; cases e
    simp only [this, if_false]; exact o.view.sub d u e
  have hsv : ∀ d ∈ p0 :: Ss.flatten, (fun d => if d ∈ p0 :: Ss.flatten then none else H1 d) d = none := fun d m => if_pos m
  refine ⟨rfl, fun _ => p0, arg c, p0 :: Ss.flatten, (fun d => if d ∈ p0 :: Ss.flatten then none else H1 d), xok, ?_, ?_, ?_⟩
  · rw [hs]
    exact call_start (out := [⟨τ, v c⟩]) (ws := [w]) o e5 e2 e3 e4 (hide_view o inA) up hsv ⟨hw _, trivial⟩
  · refine fun ex hx cls d H' s r => xss ex hx σ cls d H' (fun d u e n => s d u (env2.pres d u e n) fun m => ?_) r
    rcases o.orig d (inA d m) with z | z
    · exact n z
    · rw [z] at e; cases e
  · refine Res.wp_mono (Res.wp_bind.mp k1) fun bb k3 u σ' H' Hs' env' => ?_
    obtain ⟨Hs2, env3⟩ := call_back a b o e5 e1 hpin (.inl ⟨hκ, hr⟩) hsv env'
    exact k3 u H' Hs2 env3
end
end TM

set_option Elab.async false
set_option linter.all false
set_option maxRecDepth 100000
/-! TM11: what a for walks. -/
namespace TM
open PySem L2

def rngL (lo hi : Int) : List Int := (List.range (hi - lo).toNat).map fun (k : Nat) => lo + (k : Int)
theorem rngL_get {lo hi : Int} {i : Nat} : (rngL lo hi)[i]? = if i < (hi - lo).toNat then some (lo + (i : Int)) else none := by
  unfold rngL
  by_cases h : i < (hi - lo).toNat
  · rw [List.getElem?_map, List.getElem?_range h, if_pos h]; rfl
  · rw [if_neg h, List.getElem?_eq_none]
    rw [List.length_map, List.length_range]
    exact Nat.le_of_not_lt h
abbrev bind1 (i : Nat) (τ : Ty) : τ.T → List Slot → List Slot := fun x G => G.set i (sv τ x)
abbrev bind2 (i j : Nat) (σ τ : Ty) : σ.T × τ.T → List Slot → List Slot := fun x G => (G.set i (sv σ x.1)).set j (sv τ x.2)
theorem Env.storeVal {K : Fg} {f : Fr} {G : List Slot} {σ : St} {H Hs : Hp} {τ : Ty} {x : τ.T} {v : V} (i : Nat) (h : Env K f G [] σ [] H Hs) (r : τ.rep K Hs v x) : Env K f (G.set i (sv τ x)) [] (σ.set i (some v)) [] H Hs :=
  (h.push (S := []) (Grow.refl h.view) (κ := kVal τ) ⟨rfl, r⟩ ⟨.nil, fun _ z => (List.not_mem_nil z).elim, fun _ z => (List.not_mem_nil z).elim, fun _ z => (List.not_mem_nil z).elim⟩).store i
/-- the list at a -/
theorem iter_list {K : Fg} {f : Fr} {τ : Ty} {i : Nat} {a : Addr} {us : List V} {xs : List τ.T} {Hs1 : Hp} (ha : Hs1 a = some (.lst us)) (hp : Paired (τ.rep K Hs1) us xs) : Iter K f (Itl K a) (gName i) xs (bind1 i τ) Hs1 := fun H2 Hs2 σ G' env e k => by
  have h2 : H2 a = some (.lst us) := env.view.sub _ _ (e _ _ ha)
  refine ⟨fun x hx => ?_, fun hx => ⟨us, SqL.of h2, ?_⟩⟩
  · obtain ⟨u, hu, r⟩ := paired_get hp hx
    refine ⟨⟨us, u, SqL.of h2, hu⟩, fun v H3 hv Q q => ?_⟩
    obtain ⟨rfl, hv⟩ := hv
    have : v = u := Option.some.inj ((hv us (SqL.of h2)).symm.trans hu)
    subst this
    exact q _ _ Hs2 (env.storeVal i (τ.mono e r))
  · rw [paired_len hp]; exact List.getElem?_eq_none_iff.mp hx
theorem iter_tup {K : Fg} {f : Fr} {τ : Ty} {i : Nat} {a : Addr} {us : List V} {xs : List τ.T} {Hs1 : Hp} (ha : SqT K Hs1 a us) (hp : Paired (τ.rep K Hs1) us xs) : Iter K f (Itt K a) (gName i) xs (bind1 i τ) Hs1 := fun H2 Hs2 σ G' env e k => by
  have h2 : SqT K H2 a us := sqT_mono env.view.sub (sqT_mono e ha)
  refine ⟨fun x hx => ?_, fun hx => ⟨us, h2, ?_⟩⟩
  · obtain ⟨u, hu, r⟩ := paired_get hp hx
    refine ⟨⟨us, u, h2, hu⟩, fun v H3 hv Q q => ?_⟩
    obtain ⟨rfl, hv⟩ := hv
    have : v = u := Option.some.inj ((hv us h2).symm.trans hu)
    subst this
    exact q _ _ Hs2 (env.storeVal i (τ.mono e r))
  · rw [paired_len hp]; exact List.getElem?_eq_none_iff.mp hx
section
variable {B : Bd} {G : List Slot} {e e1 e2 : Expr} {τ σ : Ty} {pos p tpos : Pos} {n : Str}
theorem fj_list (i : Nat) {m : Res (List τ.T)} (hN : B.N.Nodup) (hi : B.N[i]? = some n) (hx : B.sc.names.lookup n = some .local ∨ (B.sc.names.lookup n = some .cell)) (he : PJ B (stab G) e (tList τ) m) : FJ B G (.Name n p) e m (bind1 i τ) := fun X W ok tk => by
  obtain ⟨t, h1, h2⟩ := he
  refine ⟨_, _, pi_list (h1 X W ok.toCxOk tk), pg_name (i := i) (by rw [ok.N]; exact hN) (by rw [ok.N]; exact hi) (by rw [ok.sc]; exact hx) (Or.inl (ok.fn _)), fun f xok σ H Hs R xs env q => ?_⟩
  refine h2 W xok σ H Hs _ env.view env.vstab (xs.xw env) (Res.wp_mono q fun ys k v H1 Hs1 g r => ?_)
  obtain ⟨a, us, rfl, ha, hl, hp⟩ := r
  refine ⟨a, rfl, ⟨us, SqL.of (g.view.sub _ _ ha)⟩, ?_⟩
  rw [ok.K]
  exact k _ H1 Hs1 (env.grown g) fun f' => iter_list ha hp
theorem fj_tup (i : Nat) {m : Res (List τ.T)} (hN : B.N.Nodup) (hi : B.N[i]? = some n) (hx : B.sc.names.lookup n = some .local ∨ (B.sc.names.lookup n = some .cell)) (he : PJ B (stab G) e (tTup τ) m) : FJ B G (.Name n p) e m (bind1 i τ) := fun X W ok tk => by
  obtain ⟨t, h1, h2⟩ := he
  refine ⟨_, _, pi_tup (h1 X W ok.toCxOk tk), pg_name (i := i) (by rw [ok.N]; exact hN) (by rw [ok.N]; exact hi) (by rw [ok.sc]; exact hx) (Or.inl (ok.fn _)), fun f xok σ H Hs R xs env q => ?_⟩
  refine h2 W xok σ H Hs _ env.view env.vstab (xs.xw env) (Res.wp_mono q fun ys k v H1 Hs1 g r => ?_)
  obtain ⟨a, us, rfl, ha, hl, hp⟩ := r
  refine ⟨a, rfl, ⟨us, by rw [ok.K]; exact sqT_mono g.view.sub ha⟩, ?_⟩
  rw [ok.K]
  exact k _ H1 Hs1 (env.grown g) fun f' => iter_tup ha hp
def rngOk (j : Int) : Prop := -(2 ^ 62) ≤ j ∧ j < 2 ^ 62
instance {j : Int} : Decidable (rngOk j) := by unfold rngOk; infer_instance
theorem iter_rng {K : Fg} {f : Fr} {i : Nat} {lo hi : Int} {Hs1 : Hp} : Iter K f (Itr lo (hi - lo).toNat) (gName i) (rngL lo hi) (bind1 i tInt) Hs1 := fun H2 Hs2 σ G' env e k => by
  refine ⟨fun x hx => ?_, fun hx => ?_⟩
  · rw [rngL_get] at hx
    by_cases h : k < (hi - lo).toNat
    · rw [if_pos h] at hx
      cases hx
      refine ⟨h, fun v H3 hv Q q => ?_⟩
      obtain ⟨rfl, rfl⟩ := hv
      exact q _ _ Hs2 (env.storeVal (τ := tInt) i rfl)
    · rw [if_neg h] at hx; cases hx
  · rw [rngL_get] at hx
    by_cases h : k < (hi - lo).toNat
    · rw [if_pos h] at hx; cases hx
    · exact Nat.le_of_not_lt h
def rng1 (j : Int) : Res (List Int) := gate (rngOk j) (rngL 0 j)
def rng2 (i j : Int) : Res (List Int) := gate (rngOk i ∧ rngOk j) (rngL i j)
theorem fj_rng1 (i : Nat) {m : Res Int} {rp : Pos} (hN : B.N.Nodup) (hi : B.N[i]? = some n) (hx : B.sc.names.lookup n = some .local ∨ (B.sc.names.lookup n = some .cell)) (hg : B.sc.names.lookup ("range" : Str) = some .globalImplicit) (hm : B.mg "range" = none)
    (he : PJ B (stab G) e tInt m) (hs : ∀ env, starEach [e] env = [(false, eval e env)] := by intro _; rfl) : FJ B G (.Name n p) (.Call (.Name "range" rp) [e] [] pos) (m.bind rng1) (bind1 i tInt) := fun X W ok tk => by
  obtain ⟨t, h1, h2⟩ := he
  refine ⟨_, _, pi_range1 (by show X.env.scope.names.lookup _ = _; rw [ok.sc]; exact hg) (by rw [ok.mg]; exact hm) (pa_cons (h1 X W ok.toCxOk tk) pa_nil (hs X.env)) (hs X.env), pg_name (i := i) (by rw [ok.N]; exact hN) (by rw [ok.N]; exact hi) (by rw [ok.sc]; exact hx) (Or.inl (ok.fn _)), fun f xok σ H Hs R xs env q => ?_⟩
  refine h2 W xok σ H Hs _ env.view env.vstab (xs.xw env) (Res.wp_mono (Res.wp_bind.mp q) fun (j : Int) k v H1 Hs1 g r => ?_)
  obtain rfl : v = .int j := r
  unfold rng1 gate at k
  by_cases h : rngOk j
  · rw [if_pos h] at k
    refine ⟨j, rfl, h.1, h.2, ?_⟩
    have k' := k (Itr 0 (j - 0).toNat) H1 Hs1 (env.grown g) fun f' => iter_rng
    rw [Int.sub_zero] at k'
    exact k'
  · rw [if_neg h] at k; exact k.elim
theorem fj_rng2 (i : Nat) {ma mb : Res Int} {rp : Pos} (hN : B.N.Nodup) (hi : B.N[i]? = some n) (hx : B.sc.names.lookup n = some .local ∨ (B.sc.names.lookup n = some .cell)) (hg : B.sc.names.lookup ("range" : Str) = some .globalImplicit) (hm : B.mg "range" = none)
    (he : PJ B (stab G) e1 tInt ma) (he2 : PJ B (stab G) e2 tInt mb) (hs : ∀ env, starEach [e1, e2] env = [(false, eval e1 env), (false, eval e2 env)] := by intro _; rfl) (hs2 : ∀ env, starEach [e2] env = [(false, eval e2 env)] := by intro _; rfl) :
    FJ B G (.Name n p) (.Call (.Name "range" rp) [e1, e2] [] pos) (ma.bind fun i => mb.bind fun j => rng2 i j) (bind1 i tInt) := fun X W ok tk => by
  obtain ⟨ta, a1, a2⟩ := he
  obtain ⟨tb, b1, b2⟩ := he2
  refine ⟨_, _, pi_range2 (by show X.env.scope.names.lookup _ = _; rw [ok.sc]; exact hg) (by rw [ok.mg]; exact hm) (pa_cons (a1 X W ok.toCxOk tk) (pa_cons (b1 X W ok.toCxOk tk) pa_nil (hs2 X.env)) (by rw [hs X.env, hs2 X.env])) (hs X.env) (hs2 X.env), pg_name (i := i) (by rw [ok.N]; exact hN) (by rw [ok.N]; exact hi) (by rw [ok.sc]; exact hx) (Or.inl (ok.fn _)), fun f xok σ H Hs R xs env q => ?_⟩
  refine a2 W xok σ H Hs _ env.view env.vstab (xs.xw env) (Res.wp_mono (Res.wp_bind.mp q) fun (j : Int) k v H1 Hs1 g r => ?_)
  refine b2 W xok σ H1 Hs1 _ g.view (env.vstab.mono g.up) ((xs.xw env).mono g.same) (Res.wp_mono (Res.wp_bind.mp k) fun (j2 : Int) k v2 H2 Hs2 g2 r2 => ?_)
  obtain rfl : v = .int j := r
  obtain rfl : v2 = .int j2 := r2
  unfold rng2 gate at k
  by_cases h : rngOk j ∧ rngOk j2
  · rw [if_pos h] at k
    exact ⟨j, j2, rfl, ⟨h.1.1, h.1.2, h.2.1, h.2.2⟩, k (Itr j (j2 - j).toNat) H2 Hs2 ((env.grown g).grown g2) fun f' => iter_rng⟩
  · rw [if_neg h] at k; exact k.elim
end
end TM

set_option Elab.async false
set_option linter.all false
set_option maxRecDepth 100000
/-! TM12: list comprehensions that change nothing. -/
namespace TM
open PySem L2

/-- a pure iterable: its items, how an item is stored in the slots ixs -/
def PIter (K : Fg) (J : It) (g : TG) {α : Type} (xs : List α) (bind : α → List Slot → List Slot) (ixs : List Nat) (Hv1 : Hp) : Prop := ∀ H2 Hv2 σ G', View H2 Hv2 → VEnv K Hv2 G' σ → Same Hv1 Hv2 → ∀ i : Nat,
  (∀ x, xs[i]? = some x → J.go i H2 ∧ ∀ v H3, J.yld i H2 v H3 → ∀ Q : St → Hp → Prop, (∀ σ' H' Hv', Grow H2 Hv2 H' Hv' → VEnv K Hv' (bind x G') σ' → (∀ vs : List Nat, (∀ j ∈ ixs, j ∈ vs) → wipe σ' vs = wipe σ vs) → Q σ' H') → g v σ H3 Q) ∧ (xs[i]? = none → J.stop i H2)
def PIJ (B B' : Bd) (scope : Scope) (G : List Slot) (tg iter : Expr) {α : Type} (m : Res (List α)) (bind : α → List Slot → List Slot) (ixs : List Nat) : Prop := ∃ (wi : WX → TI) (g : TG), (∀ X W, CxOk B X → Takes X W → PI X tg iter (wi W)) ∧ (∀ X, CxOk B' X → (∀ x, X.fn x = (scope.names.lookup x == some .cell)) → PG X tg g) ∧
  ∀ W xok σ H Hv R, View H Hv → VEnv B.K Hv G σ → XW B xok W σ H → (m.wp xok fun xs => ∀ J H' Hv', Grow H Hv H' Hv' → xs.length ≤ sizeLine → PIter B.K J g xs bind ixs Hv' → R J H') → wi W σ H R

theorem wipe_set {σ : St} {v : Option V} : ∀ {vs : List Nat} {j : Nat}, j ∈ vs → wipe (σ.set j v) vs = wipe σ vs
  | w :: vs, j, h => by
    show (wipe (σ.set j v) vs).set w none = (wipe σ vs).set w none
    by_cases hj : j ∈ vs
    · rw [wipe_set hj]
    · have e : j = w := (List.mem_cons.mp h).resolve_right hj
      subst e
      clear h
      have key : ∀ (vs : List Nat) (σ : St), j ∉ vs → (wipe (σ.set j v) vs) = (wipe σ vs).set j v := by
        intro vs
        induction vs with
        | nil => intro σ _; rfl
        | cons u vs ih =>
          intro σ hn
          show (wipe (σ.set j v) vs).set u none = ((wipe σ vs).set u none).set j v
          rw [ih σ fun m => hn (List.mem_cons_of_mem _ m)]
          exact List.set_comm _ _ fun e => hn (by rw [e]; exact List.mem_cons_self)
      rw [key vs σ hj, List.set_set]
theorem wipe_set_comm {σ : St} {j : Nat} : ∀ vs : List Nat, (wipe (σ.set j none) vs) = (wipe σ vs).set j none
  | [] => rfl
  | w :: vs => by
    show (wipe (σ.set j none) vs).set w none = ((wipe σ vs).set w none).set j none
    rw [wipe_set_comm vs]
    by_cases e : j = w
    · subst e; rfl
    · exact List.set_comm _ _ e
theorem wipe_wipe (σ : St) : ∀ vs : List Nat, wipe (wipe σ vs) vs = wipe σ vs
  | [] => rfl
  | w :: vs => by
    show (wipe ((wipe σ vs).set w none) vs).set w none = (wipe σ vs).set w none
    rw [wipe_set_comm, wipe_wipe σ vs, List.set_set]
def wipeG (G : List Slot) : List Nat → List Slot
  | [] => G
  | v :: vs => (wipeG G vs).set v none
theorem wipeG_length (G : List Slot) : ∀ vs : List Nat, (wipeG G vs).length = G.length
  | [] => rfl
  | v :: vs => by show ((wipeG G vs).set v none).length = _; rw [List.length_set, wipeG_length]
theorem VEnv.wipe {K : Fg} {Hv : Hp} {G : List Slot} {σ : St} (h : VEnv K Hv G σ) : ∀ vs : List Nat, VEnv K Hv (wipeG G vs) (wipe σ vs)
  | [] => h
  | v :: vs => by
    have ih := VEnv.wipe h vs
    refine ⟨by rw [wipe_length, wipeG_length, h.len], fun i p hi => ?_⟩
    have hi' : ((wipeG G vs).set v none)[i]? = some (some p) := hi
    by_cases e : v = i
    · subst e
      by_cases hlt : v < (wipeG G vs).length
      · rw [List.getElem?_set_self hlt] at hi'; cases hi'
      · rw [List.getElem?_eq_none (by rw [List.length_set]; omega)] at hi'; cases hi'
    · rw [List.getElem?_set_ne e] at hi'
      obtain ⟨u, e1, r⟩ := ih.get i p hi'
      exact ⟨u, by show ((L2.wipe σ vs).set v none)[i]? = _; rw [List.getElem?_set_ne e]; exact e1, r⟩
theorem VEnv.set {K : Fg} {Hv : Hp} {G : List Slot} {σ : St} {τ : Ty} {x : τ.T} {v : V} (h : VEnv K Hv G σ) (i : Nat) (r : τ.rep K Hv v x) : VEnv K Hv (G.set i (sv τ x)) (σ.set i (some v)) := by
  refine ⟨by rw [List.length_set, List.length_set, h.len], fun j p hj => ?_⟩
  by_cases e : i = j
  · subst e
    by_cases hlt : i < G.length
    · rw [List.getElem?_set_self hlt] at hj
      cases hj
      exact ⟨v, by rw [List.getElem?_set_self (by rw [h.len]; exact hlt)], r⟩
    · rw [List.getElem?_eq_none (by rw [List.length_set]; omega)] at hj; cases hj
  · rw [List.getElem?_set_ne e] at hj
    obtain ⟨u, e1, r1⟩ := h.get j p hj
    exact ⟨u, by rw [List.getElem?_set_ne e]; exact e1, r1⟩

/-- [g x for x in xs if c x] -/
def compR {α β : Type} (xs : List α) (c : α → Res Bool) (g : α → Res β) : Res (List β) := match xs with
  | [] => .ok []
  | x :: xs => (c x).calm.bind fun b => if b = true then (g x).calm.bind fun y => (compR xs c g).bind fun ys => .ok (y :: ys) else compR xs c g
def mapR {α β : Type} (xs : List α) (g : α → Res β) : Res (List β) := match xs with
  | [] => .ok []
  | x :: xs => (g x).calm.bind fun y => (mapR xs g).bind fun ys => .ok (y :: ys)
theorem comp_map {α β : Type} (xs : List α) (g : α → Res β) : compR xs (fun _ => .ok true) g = mapR xs g := by
  induction xs with
  | nil => rfl
  | cons x xs ih =>
    show (Res.ok true).calm.bind _ = _
    show (g x).calm.bind (fun y => (compR xs (fun _ => .ok true) g).bind fun ys => .ok (y :: ys)) = _
    rw [ih]; rfl

theorem Grow.poke {H Hv H' Hv' : Hp} {D : Addr} {o : HO} (g : Grow H Hv H' Hv') (h : H D = none) (h' : Hv' D = none) (m : Mut (some o)) : Grow H Hv (upd H' D o) Hv' where
  same := fun a u e => by rw [upd_ne (ne_of_none e h)]; exact g.same a u e
  view := ⟨fun a u e => by rw [upd_ne (ne_of_none e h')]; exact g.view.sub a u e, fun a u e n => by
    by_cases q : a = D
    · subst q; rw [upd_same] at e; cases e; exact (n m).elim
    · rw [upd_ne q] at e; exact g.view.imm a u e n⟩
  up := g.up
  fresh := g.fresh
def scR (sc scope : Scope) : Scope := { scope with names := scope.names.map fun (n, k) => if (k == .free && sc.kind == .function && sc.names.lookup n == some .cell) then (n, .cell) else (n, k) }
abbrev lcB (B : Bd) (scope : Scope) : Bd := { B with sc := scR B.sc scope, sx := fun _ => True }
theorem blk_ok {B : Bd} {X : Cx} (ok : CxOk B X) (s : Shared) (H : Hp) (scope : Scope) (C : Addr) (cl : List (Str × Addr)) (fp : List Addr) : CxOk (lcB B scope) (X.blk s H scope (compEnvC scope cl C X.env) fp) :=
  ⟨ok.P, ok.w, ok.K, ok.mg, ok.base, ok.room, ok.N, by show relabel scope X.env = scR B.sc scope; unfold relabel scR Env.kindOf; rw [ok.sc], ok.calm, trivial⟩
abbrev W0 : WX := fun _ _ _ _ => False
/-- the parts of a comprehension and what they say -/
def LcJ (B : Bd) (G : List Slot) (elt tg iter : Expr) (ifs : List Expr) (scope : Scope) (κ : Kd) (m : Res (List κ.ty.T)) : Prop := ∃ (wi : WX → TI) (g : TG) (tt : TT) (te : TE) (own : List (Str × Nat)), (∀ X W, CxOk B X → Takes X W → PI X tg iter (wi W) ∧ BlkOk X.N X.env.scope scope own ∧
    (∀ (s : Shared) (H : Hp) (C : Addr) (cl : List (Str × Addr)) (fp : List Addr), PG (X.blk s H scope (compEnvC scope cl C X.env) fp) tg g ∧ PTs (X.blk s H scope (compEnvC scope cl C X.env) fp) ifs tt ∧ PE (X.blk s H scope (compEnvC scope cl C X.env) fp) elt te)) ∧
  ∀ (W : WX) (xok : Exc → Prop) (σ : St) (H Hv : Hp) (Q : VK), View H Hv → VEnv B.K Hv G σ → XW B xok W σ H → (m.wp xok fun x => ∀ v H' Hv' S, Grow H Hv H' Hv' → (kL κ).rep B.K S H' Hv' v x → Fresh S H H' Hv' → Q v H') → tLc (wi W) g tt te (own.map (·.2)) σ H Q

section
variable {B : Bd} {G : List Slot} {elt tg iter c : Expr} {ifs : List Expr} {scope : Scope} {κ : Kd} {τ : Ty} {α : Type} {bind : α → List Slot → List Slot} {ixs : List Nat} {mi : Res (List α)}
/-- tests of a comprehension -/
def TsJ (B : Bd) (G : List Slot) (ifs : List Expr) (m : Res Bool) : Prop := ∃ tt : TT, (∀ X, CxOk B X → Takes X W0 → PTs X ifs tt) ∧
  ∀ (σ : St) (H Hv : Hp) (Q : Bool → Hp → Prop), View H Hv → VEnv B.K Hv G σ → (m.wp (fun _ => False) fun b => ∀ H' Hv', Grow H Hv H' Hv' → Q b H') → tt σ H Q
theorem tsj_nil : TsJ B G [] (.ok true) := ⟨tYes, fun _ _ _ => pts_nil, fun σ H Hv Q v _ q => q H Hv (Grow.refl v)⟩
theorem tsj_one {m : Res Bool} (h : TJ B G c m) : TsJ B G [c] m := by
  obtain ⟨t, h1, h2⟩ := h
  exact ⟨t W0, fun X ok tk => pts_one (h1 X W0 ok tk), fun σ H Hv Q v ve q => h2 W0 (fun _ => False) σ H Hv Q v ve (fun _ z => z.elim) q⟩
theorem pts_ex {X : Cx} {β : Type} {t : β → TT} (h : ∀ b, PTs X ifs (t b)) : PTs X ifs (fun σ H Q => ∃ b, t b σ H Q) := ⟨fun pins s σ H Q I ⟨b, q⟩ => (h b).run pins s σ H Q I q⟩
theorem lcj (own : List (Str × Nat)) {mc : α → Res Bool} {me : α → Res κ.ty.T} (hb : blkC B.N B.sc scope own = true) (hi : PIJ B (lcB B scope) scope G tg iter mi bind ixs) (hx : ∀ j ∈ ixs, j ∈ own.map (·.2))
    (hc : ∀ x, TsJ (lcB B scope) (bind x (wipeG G (own.map (·.2)))) ifs (mc x)) (he : ∀ x, OJ (lcB B scope) (bind x (wipeG G (own.map (·.2)))) elt κ (me x)) : LcJ B G elt tg iter ifs scope κ (mi.bind fun xs => compR xs mc me) := by
  obtain ⟨wi, g, i1, i2, i3⟩ := hi
  obtain ⟨tt, hc'⟩ := Classical.axiomOfChoice hc
  obtain ⟨te, he'⟩ := Classical.axiomOfChoice he
  have c1 := fun x => (hc' x).1
  have c2 := fun x => (hc' x).2
  have e1 := fun x => (he' x).1
  have e2 := fun x => (he' x).2
  refine ⟨wi, g, fun σ H Q => ∃ x, tt x σ H Q, fun σ H Q => ∃ x, te x W0 σ H Q, own, fun X W ok tk => ⟨i1 X W ok tk, by rw [ok.N, ok.sc]; exact blkOk_by hb, fun s H C cl fp => ⟨?_, ?_, ?_⟩⟩, ?_⟩
  · exact i2 _ (blk_ok ok s H scope C cl fp) fun x => rfl
  · exact pts_ex fun x => c1 x _ (blk_ok ok s H scope C cl fp) takes0
  · exact pe_ex fun x => e1 x _ W0 (blk_ok ok s H scope C cl fp) takes0
  intro W xok σ H Hv Q v ve xw q
  refine i3 W xok σ H Hv _ v ve xw (Res.wp_mono (Res.wp_bind.mp q) fun xs q1 J H1 Hv1 g1 hsz it D hD => ?_)
  have hDv : Hv1 D = none := by
    cases h : Hv1 D with
    | none => rfl
    | some u => rw [g1.view.sub D u h] at hD; cases hD
  have gD : Grow H1 Hv1 (upd H1 D (.lst [])) Hv1 := Grow.newOwn g1.view hD trivial
  -- what holds ahead of turn i
  let Inv : Nat → Hp → Prop := fun i H2 => ∃ acc ys Ss Hv2, H2 D = some (.lst acc) ∧ acc.length ≤ i ∧ Grow H1 Hv1 H2 Hv2 ∧ Hv2 D = none ∧ Els (fun S v x => κ.rep B.K S H2 Hv2 v x) Ss acc ys ∧ (D :: Ss.flatten).Nodup ∧ (∀ a ∈ Ss.flatten, H1 a = none ∧ (∃ o, H2 a = some o ∧ Mut (some o)) ∧ Hv2 a = none) ∧
    ((compR (xs.drop i) mc me).wp xok fun zs => ∀ v H' Hv' S, Grow H Hv H' Hv' → (kL κ).rep B.K S H' Hv' v (ys ++ zs) → Fresh S H H' Hv' → Q v H')
  refine ⟨fun i m H2 => m = xs.length - i ∧ i ≤ xs.length ∧ Inv i H2, ⟨_, rfl, Nat.zero_le _, [], [], [], Hv1, upd_same, Nat.le_refl _, gD, hDv, trivial, by simp, fun a m => by simp at m, by simpa using q1⟩, ?_⟩
  rintro i m H2 ⟨rfl, hi', acc, ys, Ss, Hv2, hd, hacc, g2, hDv2, hel, hnd, hfr, q2⟩
  have it2 := it H2 Hv2 (wipe σ (own.map (·.2))) (wipeG G (own.map (·.2))) g2.view (((ve.mono g1.up).mono g2.up).wipe _) g2.up i
  cases hxi : xs[i]? with
  | none =>
    have hle : xs.length ≤ i := List.getElem?_eq_none_iff.mp hxi
    rw [List.drop_of_length_le hle] at q2
    refine .inl ⟨it2.2 hxi, ?_⟩
    have hlen := hel.len
    refine q2 (.ref D) H2 Hv2 (D :: Ss.flatten) (g1.trans g2) ?_ ?_
    · rw [List.append_nil]
      exact ⟨D, acc, Ss, rfl, trivial, hd, by rw [← hlen.2]; omega, rfl, hel⟩
    · refine ⟨hnd, fun a m => ?_, fun a m => ?_, fun a m => ?_⟩
      · rcases List.mem_cons.mp m with m | m
        · rw [m]; exact g1.same.free hD
        · exact g1.same.free (hfr a m).1
      · rcases List.mem_cons.mp m with m | m
        · rw [m]; exact ⟨_, hd, trivial⟩
        · exact (hfr a m).2.1
      · rcases List.mem_cons.mp m with m | m
        · rw [m]; exact hDv2
        · exact (hfr a m).2.2
  | some x =>
    obtain ⟨hlt, hxe⟩ := List.getElem?_eq_some_iff.mp hxi
    obtain ⟨hgo, hy⟩ := it2.1 x hxi
    refine .inr ⟨hgo, Inv (i + 1), fun H3 h3 => ⟨_, by omega, rfl, hlt, h3⟩, fun u H3 hu => ?_⟩
    refine hy u H3 hu _ fun σ4 H4 Hv4 g4 ve4 hw => ⟨hw _ hx |>.trans (wipe_wipe σ _), x, c2 x σ4 H4 Hv4 _ g4.view ve4 ?_⟩
    rw [List.drop_eq_getElem_cons hlt, hxe] at q2
    have q3 := Res.wp_bind.mp (show ((mc x).calm.bind fun b => if b = true then (me x).calm.bind fun y => (compR (xs.drop (i + 1)) mc me).bind fun ys => .ok (y :: ys) else compR (xs.drop (i + 1)) mc me).wp xok _ from q2)
    refine Res.wp_mono (Res.wp_calm q3) fun b q4 H5 Hv5 g5 => ?_
    have g24 := g4.trans g5
    have keepEls : ∀ {H6 Hv6 : Hp}, Grow H2 Hv2 H6 Hv6 → Els (fun S v x => κ.rep B.K S H6 Hv6 v x) Ss acc ys := fun g => hel.imp fun S v x _ r => κ.keep r (fun a _ o e => g.same a o e) g.up
    have keepFr : ∀ {H6 Hv6 : Hp}, Grow H2 Hv2 H6 Hv6 → ∀ a ∈ Ss.flatten, H1 a = none ∧ (∃ o, H6 a = some o ∧ Mut (some o)) ∧ Hv6 a = none := fun {H6 Hv6} g a m => by
      obtain ⟨k1, ⟨o, k2, k3⟩, k4⟩ := hfr a m
      refine ⟨k1, ⟨o, g.same a o k2, k3⟩, ?_⟩
      cases h : Hv6 a with
      | none => rfl
      | some w =>
        rcases g.fresh a w h with z | z
        · rw [k4] at z; cases z
        · rw [k2] at z; cases z
    have keepD : ∀ {H6 Hv6 : Hp}, Grow H2 Hv2 H6 Hv6 → Hv6 D = none := fun {H6 Hv6} g => by
      cases h : Hv6 D with
      | none => rfl
      | some w =>
        rcases g.fresh D w h with z | z
        · rw [hDv2] at z; cases z
        · rw [hd] at z; cases z
    cases b with
    | false => exact ⟨acc, ys, Ss, Hv5, g24.same _ _ hd, by omega, g2.trans g24, keepD g24, keepEls g24, hnd, keepFr g24, q4⟩
    | true =>
      show (∃ x, te x W0 σ4 H5 _)
      refine ⟨x, e2 x W0 (fun _ => False) σ4 H5 Hv5 _ g5.view (ve4.mono g5.up) (fun _ z => z.elim) ?_⟩
      refine Res.wp_mono (Res.wp_calm (Res.wp_bind.mp (show ((me x).calm.bind fun y => (compR (xs.drop (i + 1)) mc me).bind fun ys => .ok (y :: ys)).wp xok _ from q4))) fun y q5 w H6 Hv6 S6 g6 r6 f6 => ?_
      have g26 := g24.trans g6
      have hd6 : H6 D = some (.lst acc) := g26.same _ _ hd
      refine ⟨acc, hd6, Nat.lt_of_le_of_lt hacc (Nat.lt_of_lt_of_le hlt hsz), acc ++ [w], ys ++ [y], Ss ++ [S6], Hv6, upd_same, by rw [List.length_append]; exact Nat.succ_le_succ hacc, (g2.trans g26).poke hD (keepD g26) trivial, keepD g26, ?_, ?_, ?_, ?_⟩
      · have nD : ∀ a ∈ Ss.flatten, a ≠ D := fun a m e => by
          have := (List.nodup_cons.mp hnd).1
          exact this (by rw [← e]; exact m)
        have nD6 : ∀ a ∈ S6, a ≠ D := fun a m e => by
          have := f6.new a m
          rw [e, g24.same _ _ hd] at this
          cases this
        refine Els.append ((keepEls g26).imp fun S v x hm r => κ.keep r (fun a ha o e => by rw [upd_ne (nD a (List.mem_flatten.mpr ⟨S, hm, ha⟩))]; exact e) (Same.refl _)) ⟨κ.keep r6 (fun a ha o e => by rw [upd_ne (nD6 a ha)]; exact e) (Same.refl _), trivial⟩
      · rw [List.flatten_append, List.flatten_cons, List.flatten_nil, List.append_nil, ← List.cons_append]
        refine List.nodup_append.mpr ⟨hnd, f6.nodup, fun a ha b hb e => ?_⟩
        subst e
        have hn := f6.new a hb
        rcases List.mem_cons.mp ha with m | m
        · rw [m, g24.same _ _ hd] at hn; cases hn
        · obtain ⟨_, ⟨o, k2, _⟩, _⟩ := hfr a m
          rw [g24.same _ _ k2] at hn; cases hn
      · intro a m
        rw [List.flatten_append, List.flatten_cons, List.flatten_nil, List.append_nil] at m
        rcases List.mem_append.mp m with m | m
        · obtain ⟨k1, ⟨o, k2, k3⟩, k4⟩ := keepFr g26 a m
          refine ⟨k1, ⟨o, ?_, k3⟩, k4⟩
          rw [upd_ne (fun e => (List.nodup_cons.mp hnd).1 (by rw [← e]; exact m))]; exact k2
        · obtain ⟨o, k2, k3⟩ := f6.live a m
          refine ⟨(g2.trans g24).same.free (f6.new a m), ⟨o, ?_, k3⟩, f6.sep a m⟩
          rw [upd_ne (fun e => by have := f6.new a m; rw [e, g24.same _ _ hd] at this; cases this)]; exact k2
      · exact Res.wp_mono (Res.wp_bind.mp q5) fun zs q6 => by
          have q7 : ∀ v H' Hv' S, Grow H Hv H' Hv' → (kL κ).rep B.K S H' Hv' v (ys ++ (y :: zs)) → Fresh S H H' Hv' → Q v H' := q6
          rw [List.append_assoc]
          exact q7
end
end TM

set_option Elab.async false
set_option linter.all false
set_option maxRecDepth 100000
/-! TM13: comprehensions as expressions, built-in functions, displays, slices. -/
namespace TM
open PySem L2

theorem fresh_nil {H H' Hv' : Hp} : Fresh [] H H' Hv' := ⟨.nil, fun _ z => (List.not_mem_nil z).elim, fun _ z => (List.not_mem_nil z).elim, fun _ z => (List.not_mem_nil z).elim⟩
theorem fresh_one {H Hv : Hp} {p : Addr} {o : HO} (v : View H Hv) (h : H p = none) (m : Mut (some o)) : Fresh [p] H (upd H p o) Hv := ⟨List.nodup_cons.mpr ⟨List.not_mem_nil, .nil⟩, fun a z => by rw [List.mem_singleton.mp z]; exact h, fun a z => by rw [List.mem_singleton.mp z]; exact ⟨o, upd_same, m⟩, fun a z => by
  rw [List.mem_singleton.mp z]
  cases q : Hv p with
  | none => rfl
  | some u => rw [v.sub p u q] at h; cases h⟩
theorem els_vals {K : Fg} {H Hv : Hp} {τ : Ty} : ∀ {us : List V} {xs : List τ.T}, Paired (τ.rep K Hv) us xs → Els (fun S v x => (kVal τ).rep K S H Hv v x) (List.replicate us.length []) us xs
  | _, _, .nil => trivial
  | _, _, .cons r t => ⟨⟨rfl, r⟩, els_vals t⟩
/-- a new list of stable items -/
theorem newList {K : Fg} {H Hv : Hp} {τ : Ty} {us : List V} {xs : List τ.T} {p : Addr} {Q : VK} (v : View H Hv) (h : H p = none) (hp : Paired (τ.rep K Hv) us xs) (hl : xs.length ≤ sizeLine)
    (q : ∀ v H' Hv' S, Grow H Hv H' Hv' → (kL (kVal τ)).rep K S H' Hv' v xs → Fresh S H H' Hv' → Q v H') : Q (.ref p) (upd H p (.lst us)) :=
  q (.ref p) _ Hv [p] (Grow.newOwn v h trivial) ⟨p, us, List.replicate us.length [], rfl, trivial, upd_same, hl, by rw [flatten_nils], els_vals hp⟩ (fresh_one v h trivial)
theorem newTup {K : Fg} {H Hv : Hp} {τ : Ty} {us : List V} {xs : List τ.T} {p : Addr} {Q : VK} (v : View H Hv) (h : H p = none) (hp : Paired (τ.rep K Hv) us xs) (hl : xs.length ≤ sizeLine)
    (q : ∀ v H' Hv', Grow H Hv H' Hv' → (tTup τ).rep K Hv' v xs → Q v H') : Q (.ref p) (upd H p (.tup us)) := by
  have g := Grow.new (o := .tup us) v h
  exact q (.ref p) _ _ g ⟨p, us, rfl, SqT.of upd_same, hl, paired_imp hp fun _ _ r => τ.mono g.up r⟩

section
variable {B : Bd} {G : List Slot} {e a b elt tg iter : Expr} {es : List Expr} {ifs : List Expr} {scope : Scope} {τ σ ρ : Ty} {κ : Kd} {pos p cpos : Pos} {n : Str} {rest : List Stmt} {α : Type} {fin : α → Fin}
/-! comprehensions -/
theorem oj_lc {m : Res (List κ.ty.T)} (hN : B.N.Nodup) (hc : B.calm = true) (h : LcJ B G elt tg iter ifs scope κ m) (hs : ∀ env x, foldedSetIterable iter env x = pure x := by intro _ _; rfl) : OJ B G (.ListComp elt [⟨tg, iter, ifs, 0⟩] scope pos) (kL κ) m := by
  obtain ⟨wi, g, tt, te, own, h1, h2⟩ := h
  refine ⟨fun W => tLc (wi W) g tt te (List.map (fun (x : Str × Nat) => x.2) own), fun X W ok tk => ?_, h2⟩
  obtain ⟨p1, p2, p3⟩ := h1 X W ok tk
  exact pe_lc (ok.calm.trans hc) (by rw [ok.N]; exact hN) p1 p2 (fun s H C cl fp => (p3 s H C cl fp).1) (fun s H C cl fp => (p3 s H C cl fp).2.1) (fun s H C cl fp => (p3 s H C cl fp).2.2) (hs X.env)
/-- name = [..] -/
theorem bj_setLc (i : Nat) {m : Res (List κ.ty.T)} {m2 : List κ.ty.T → Res α} {spos py : Pos} (hN : B.N.Nodup) (hc : B.calm = true) (hi : B.N[i]? = some n) (hk : B.sc.kind = .function) (hx : B.sc.names.lookup n = some .local) (hl : (py.line == pos.line) = true)
    (ha : (scope.names.any fun (z, k) => z == n && (k == .local || k == .cell)) = false) (h : LcJ B G elt tg iter ifs scope κ m) (hκ : κ.Imm)
    (hr : ∀ xs, BJ B (G.set i (some ⟨kL κ, xs⟩)) rest (m2 xs) fin) (hs : ∀ env x, foldedSetIterable iter env x = pure x := by intro _ _; rfl) : BJ B G (.Assign [.Name n py] (.ListComp elt [⟨tg, iter, ifs, 0⟩] scope pos) spos :: rest) (m.bind m2) fin := fun X W ok tk => by
  obtain ⟨wi, g, tt, te, own, h1, h2⟩ := h
  obtain ⟨p1, p2, p3⟩ := h1 X W ok.toCxOk tk
  refine pss_imp (pss_cons (ps_setLc (ok.calm.trans hc) (by rw [ok.N]; exact hN) (by rw [ok.N]; exact hi) (by rw [ok.sc]; exact hx) (sw_true (by rw [ok.sc]; exact hk) (by rw [ok.sc]; exact hx) hl ha) p1 p2 (fun s H C cl fp => (p3 s H C cl fp).1) (fun s H C cl fp => (p3 s H C cl fp).2.1) (fun s H C cl fp => (p3 s H C cl fp).2.2) (hs X.env)) (pss_ex fun xs => hr xs X W ok tk)) fun D σ H ⟨f, xok, Hs, xss, env, q⟩ => ?_
  obtain ⟨SG, SD, _, _, o⟩ := id env
  unfold L2.tSeq tAsg gName
  refine h2 W xok σ H H _ (View.refl H) env.vall (xss.xw env) (Res.wp_mono (Res.wp_bind.mp q) fun xs k v H' Hv' S g r fr => ?_)
  obtain ⟨Hs', g', i1, i2⟩ := thawed o g
  exact ⟨xs, f, xok, Hs', xss, (env.push g' (imm_kLP hκ i1 r) ⟨fr.nodup, fr.new, fr.live, fun a m => i2 a (fr.sep a m)⟩).store i, k⟩
/-- .. whose items are stable things -/
theorem bj_setLcS (i : Nat) {m : Res (List κ.ty.T)} {m2 : List κ.ty.T → Res α} {spos py : Pos} (hN : B.N.Nodup) (hc : B.calm = true) (hi : B.N[i]? = some n) (hk : B.sc.kind = .function) (hx : B.sc.names.lookup n = some .local) (hl : (py.line == pos.line) = true)
    (ha : (scope.names.any fun (z, k) => z == n && (k == .local || k == .cell)) = false) (h : LcJ B (stab G) elt tg iter ifs scope κ m)
    (hr : ∀ xs, BJ B (G.set i (some ⟨kL κ, xs⟩)) rest (m2 xs) fin) (hs : ∀ env x, foldedSetIterable iter env x = pure x := by intro _ _; rfl) : BJ B G (.Assign [.Name n py] (.ListComp elt [⟨tg, iter, ifs, 0⟩] scope pos) spos :: rest) (m.bind m2) fin := fun X W ok tk => by
  obtain ⟨wi, g, tt, te, own, h1, h2⟩ := h
  obtain ⟨p1, p2, p3⟩ := h1 X W ok.toCxOk tk
  refine pss_imp (pss_cons (ps_setLc (ok.calm.trans hc) (by rw [ok.N]; exact hN) (by rw [ok.N]; exact hi) (by rw [ok.sc]; exact hx) (sw_true (by rw [ok.sc]; exact hk) (by rw [ok.sc]; exact hx) hl ha) p1 p2 (fun s H C cl fp => (p3 s H C cl fp).1) (fun s H C cl fp => (p3 s H C cl fp).2.1) (fun s H C cl fp => (p3 s H C cl fp).2.2) (hs X.env)) (pss_ex fun xs => hr xs X W ok tk)) fun D σ H ⟨f, xok, Hs, xss, env, q⟩ => ?_
  unfold L2.tSeq tAsg gName
  refine h2 W xok σ H Hs _ env.view env.vstab (xss.xw env) (Res.wp_mono (Res.wp_bind.mp q) fun xs k v H' Hv' S g r fr => ?_)
  exact ⟨xs, f, xok, Hv', xss, (env.push g r fr).store i, k⟩

/-! what a comprehension walks -/
theorem pij_list (i : Nat) {m : Res (List τ.T)} (hN : B.N.Nodup) (hi : B.N[i]? = some n) (hx : Loc (lcB B scope).sc n) (hf : (scope.names.lookup n == some .cell) = true ∨ (lcB B scope).sc.names.lookup n = some .local) (he : PJ B G e (tList τ) m) :
    PIJ B (lcB B scope) scope G (.Name n p) e m (bind1 i τ) [i] := by
  obtain ⟨t, h1, h2⟩ := he
  refine ⟨fun W => iList B.K (t W), gName i, fun X W ok tk => by rw [← ok.K]; exact pi_list (h1 X W ok tk), fun X ok hfn => pg_name (i := i) (by rw [ok.N]; exact hN) (by rw [ok.N]; exact hi) (by rw [ok.sc]; exact hx) (by rw [hfn, ok.sc]; exact hf), fun W xok σ H Hv R v ve xw q => ?_⟩
  refine h2 W xok σ H Hv _ v ve xw (Res.wp_mono q fun xs k u H1 Hv1 g r => ?_)
  obtain ⟨a, us, rfl, ha, hl, hp⟩ := r
  refine ⟨a, rfl, ⟨us, SqL.of (g.view.sub _ _ ha)⟩, k _ H1 Hv1 g hl fun H2 Hv2 σ' G' v2 ve2 e2 j => ?_⟩
  have ha2 : H2 a = some (.lst us) := v2.sub _ _ (e2 _ _ ha)
  refine ⟨fun x hx => ?_, fun hx => ⟨us, SqL.of ha2, by rw [paired_len hp]; exact List.getElem?_eq_none_iff.mp hx⟩⟩
  obtain ⟨w, hw, r⟩ := paired_get hp hx
  refine ⟨⟨us, w, SqL.of ha2, hw⟩, fun y H3 hy Q q => ?_⟩
  obtain ⟨rfl, hy⟩ := hy
  have : y = w := Option.some.inj ((hy us (SqL.of ha2)).symm.trans hw)
  subst this
  exact q _ _ Hv2 (Grow.refl v2) (ve2.set i (τ.mono e2 r)) fun vs hv => wipe_set (hv i (List.mem_singleton.mpr rfl))
theorem pij_tup (i : Nat) {m : Res (List τ.T)} (hN : B.N.Nodup) (hi : B.N[i]? = some n) (hx : Loc (lcB B scope).sc n) (hf : (scope.names.lookup n == some .cell) = true ∨ (lcB B scope).sc.names.lookup n = some .local) (he : PJ B G e (tTup τ) m) :
    PIJ B (lcB B scope) scope G (.Name n p) e m (bind1 i τ) [i] := by
  obtain ⟨t, h1, h2⟩ := he
  refine ⟨fun W => iTup B.K (t W), gName i, fun X W ok tk => by rw [← ok.K]; exact pi_tup (h1 X W ok tk), fun X ok hfn => pg_name (i := i) (by rw [ok.N]; exact hN) (by rw [ok.N]; exact hi) (by rw [ok.sc]; exact hx) (by rw [hfn, ok.sc]; exact hf), fun W xok σ H Hv R v ve xw q => ?_⟩
  refine h2 W xok σ H Hv _ v ve xw (Res.wp_mono q fun xs k u H1 Hv1 g r => ?_)
  obtain ⟨a, us, rfl, ha, hl, hp⟩ := r
  refine ⟨a, rfl, ⟨us, sqT_mono g.view.sub ha⟩, k _ H1 Hv1 g hl fun H2 Hv2 σ' G' v2 ve2 e2 j => ?_⟩
  have ha2 : SqT B.K H2 a us := sqT_mono v2.sub (sqT_mono e2 ha)
  refine ⟨fun x hx => ?_, fun hx => ⟨us, ha2, by rw [paired_len hp]; exact List.getElem?_eq_none_iff.mp hx⟩⟩
  obtain ⟨w, hw, r⟩ := paired_get hp hx
  refine ⟨⟨us, w, ha2, hw⟩, fun y H3 hy Q q => ?_⟩
  obtain ⟨rfl, hy⟩ := hy
  have : y = w := Option.some.inj ((hy us ha2).symm.trans hw)
  subst this
  exact q _ _ Hv2 (Grow.refl v2) (ve2.set i (τ.mono e2 r)) fun vs hv => wipe_set (hv i (List.mem_singleton.mpr rfl))
theorem pi_or {X : Cx} {wi wi' : TI} (h : PI X tg iter wi) (h' : PI X tg iter wi') : PI X tg iter (fun σ H R => wi σ H R ∨ wi' σ H R) := ⟨fun pins s σ H R I q => q.elim (h.run pins s σ H R I) (h'.run pins s σ H R I)⟩
/-- a range of at most so many as a list may have -/
def rngC (i j : Int) : Res (List Int) := gate (rngOk i ∧ rngOk j ∧ (j - i).toNat ≤ sizeLine) (rngL i j)
theorem piter_rng {K : Fg} {i : Nat} {lo hi : Int} {Hv1 : Hp} : PIter K (Itr lo (hi - lo).toNat) (gName i) (rngL lo hi) (bind1 i tInt) [i] Hv1 := fun H2 Hv2 σ' G' v2 ve2 e2 k => by
  refine ⟨fun x hx => ?_, fun hx => ?_⟩
  · rw [rngL_get] at hx
    by_cases h : k < (hi - lo).toNat
    · rw [if_pos h] at hx
      cases hx
      refine ⟨h, fun v H3 hv Q q => ?_⟩
      obtain ⟨rfl, rfl⟩ := hv
      exact q _ _ Hv2 (Grow.refl v2) (ve2.set (τ := tInt) i rfl) fun vs hv => wipe_set (hv i (List.mem_singleton.mpr rfl))
    · rw [if_neg h] at hx; cases hx
  · rw [rngL_get] at hx
    by_cases h : k < (hi - lo).toNat
    · rw [if_pos h] at hx; cases hx
    · exact Nat.le_of_not_lt h
theorem rngL_len {lo hi : Int} : (rngL lo hi).length = (hi - lo).toNat := by unfold rngL; rw [List.length_map, List.length_range]
theorem pij_rng1 (i : Nat) {m : Res Int} {rp : Pos} (hN : B.N.Nodup) (hi : B.N[i]? = some n) (hx : Loc (lcB B scope).sc n) (hf : (scope.names.lookup n == some .cell) = true ∨ (lcB B scope).sc.names.lookup n = some .local) (hg : B.sc.names.lookup ("range" : Str) = some .globalImplicit) (hm : B.mg "range" = none)
    (he : PJ B G e tInt m) (hs : ∀ env, starEach [e] env = [(false, eval e env)] := by intro _; rfl) : PIJ B (lcB B scope) scope G (.Name n p) (.Call (.Name "range" rp) [e] [] pos) (m.bind fun j => rngC 0 j) (bind1 i tInt) [i] := by
  obtain ⟨t, h1, h2⟩ := he
  refine ⟨fun W => iRng1 (tCons (t W) tNil), gName i, fun X W ok tk => pi_range1 (by show X.env.scope.names.lookup _ = _; rw [ok.sc]; exact hg) (by rw [ok.mg]; exact hm) (pa_cons (h1 X W ok tk) pa_nil (hs X.env)) (hs X.env),
    fun X ok hfn => pg_name (i := i) (by rw [ok.N]; exact hN) (by rw [ok.N]; exact hi) (by rw [ok.sc]; exact hx) (by rw [hfn, ok.sc]; exact hf), fun W xok σ H Hv R v ve xw q => ?_⟩
  refine h2 W xok σ H Hv _ v ve xw (Res.wp_mono (Res.wp_bind.mp q) fun (j : Int) k u H1 Hv1 g r => ?_)
  obtain rfl : u = .int j := r
  unfold rngC gate at k
  by_cases h : rngOk 0 ∧ rngOk j ∧ (j - 0).toNat ≤ sizeLine
  · rw [if_pos h] at k
    refine ⟨j, rfl, h.2.1.1, h.2.1.2, ?_⟩
    have k' := k (Itr 0 (j - 0).toNat) H1 Hv1 g (by rw [rngL_len]; exact h.2.2) piter_rng
    rw [Int.sub_zero] at k'
    exact k'
  · rw [if_neg h] at k; exact k.elim
end
end TM

set_option Elab.async false
set_option linter.all false
set_option maxRecDepth 100000
/-! TM14: built-in functions, displays, slices, in. -/
namespace TM
open PySem L2

section
variable {B : Bd} {G : List Slot} {e e1 e2 a b : Expr} {es : List Expr} {τ σ ρ : Ty} {κ : Kd} {pos p cpos : Pos} {n : Str}
theorem pj_conv {τ' : Ty} {m : Res τ.T} (f : τ.T → τ'.T) (hf : ∀ {K H v x}, τ.rep K H v x → τ'.rep K H v (f x)) (h : PJ B G e τ m) : PJ B G e τ' (m.bind fun x => .ok (f x)) := by
  obtain ⟨t, h1, h2⟩ := h
  exact ⟨t, h1, fun W xok st H Hv Q v ve xw q => h2 W xok st H Hv Q v ve xw (Res.wp_mono (Res.wp_bind.mp q) fun x k u H' Hv' g r => k u H' Hv' g (hf r))⟩
theorem seq_of_list {K H v x} : (tList τ).rep K H v x → (tSeq τ).rep K H v x := .inl
theorem seq_of_tup {K H v x} : (tTup τ).rep K H v x → (tSeq τ).rep K H v x := .inr

/-! built-in functions of one argument -/
def OpC (K : Fg) (r : List V → Hp → VK → Prop) (ρ : Ty) (κ : Kd) (g : ρ.T → Res κ.ty.T) : Prop := ∀ (H Hv : Hp) (v : V) (x : ρ.T) (Q : VK), View H Hv → ρ.rep K Hv v x → ∀ z, g x = .ok z → (∀ u H' Hv' S, Grow H Hv H' Hv' → κ.rep K S H' Hv' u z → Fresh S H H' Hv' → Q u H') → r [v] H Q
theorem fresh_back {S : List Addr} {H H1 H' Hv' : Hp} (s : Same H H1) (f : Fresh S H1 H' Hv') : Fresh S H H' Hv' := ⟨f.nodup, fun a m => s.free (f.new a m), f.live, f.sep⟩
theorem oj_cb {id : String} {r : List V → Hp → VK → Prop} {ma : Res ρ.T} {g : ρ.T → Res κ.ty.T} (hc : ∀ X, CxOk B X → CallR X (.builtin id) r) (hg : B.sc.names.lookup n = some .globalImplicit) (hm : B.mg n = none) (hv : bootBuiltins n = some (.builtin id)) (hr : OpC B.K r ρ κ g) (hx : ∀ x ex, g x ≠ .exc ex)
    (ha : PJ B G e ρ ma) (hn : n ≠ "__name__" := by decide) (hdb : (n == ("__debug__" : Str)) = false := by decide) (hs : ∀ env, starEach [e] env = (false, eval e env) :: starEach [] env := by intro _; rfl) : OJ B G (.Call (.Name n p) [e] [] pos) κ (ma.bind g) := by
  obtain ⟨t, h1, h2⟩ := ha
  refine ⟨fun W => tCB r (tCons (t W) tNil), fun X W ok tk => pe_callB (hc X ok) (by show X.env.scope.names.lookup n = _; rw [ok.sc]; exact hg) (by rw [ok.mg]; exact hm) hv (pa_cons (h1 X W ok tk) pa_nil (hs X.env)) hn hdb (hs X.env) rfl, fun W xok st H Hv Q v ve xw q => ?_⟩
  refine h2 W xok st H Hv _ v ve xw (Res.wp_mono (Res.wp_bind.mp q) fun x k u H1 Hv1 g1 ru => ?_)
  cases e : g x with
  | ok z =>
    rw [e] at k
    exact hr H1 Hv1 u x Q g1.view ru z e fun w H2 Hv2 S g2 rw f2 => k w H2 Hv2 S (g1.trans g2) rw (fresh_back g1.same f2)
  | exc ex => exact (hx x ex e).elim
  | bad => rw [e] at k; exact k.elim
theorem oj_ct {id : String} {r : List V → Hp → VK → Prop} {ma : Res ρ.T} {g : ρ.T → Res κ.ty.T} (hc : ∀ X, CxOk B X → CallR X (.type id) r) (hg : B.sc.names.lookup n = some .globalImplicit) (hm : B.mg n = none) (hv : bootBuiltins n = some (.type id)) (hr : OpC B.K r ρ κ g) (hx : ∀ x ex, g x ≠ .exc ex)
    (ha : PJ B G e ρ ma) (hn : n ≠ "__name__" := by decide) (hdb : (n == ("__debug__" : Str)) = false := by decide) (hs : ∀ env, starEach [e] env = (false, eval e env) :: starEach [] env := by intro _; rfl) : OJ B G (.Call (.Name n p) [e] [] pos) κ (ma.bind g) := by
  obtain ⟨t, h1, h2⟩ := ha
  refine ⟨fun W => tCB r (tCons (t W) tNil), fun X W ok tk => pe_callTy (hc X ok) (by show X.env.scope.names.lookup n = _; rw [ok.sc]; exact hg) (by rw [ok.mg]; exact hm) hv (pa_cons (h1 X W ok tk) pa_nil (hs X.env)) hn hdb (hs X.env) rfl, fun W xok st H Hv Q v ve xw q => ?_⟩
  refine h2 W xok st H Hv _ v ve xw (Res.wp_mono (Res.wp_bind.mp q) fun x k u H1 Hv1 g1 ru => ?_)
  cases e : g x with
  | ok z =>
    rw [e] at k
    exact hr H1 Hv1 u x Q g1.view ru z e fun w H2 Hv2 S g2 rw f2 => k w H2 Hv2 S (g1.trans g2) rw (fresh_back g1.same f2)
  | exc ex => exact (hx x ex e).elim
  | bad => rw [e] at k; exact k.elim
theorem ok_noexc {α β : Type} {g : α → β} : ∀ (x : α) (ex : Exc), Res.ok (g x) ≠ .exc ex := fun _ _ h => nomatch h
/-- what len, list, tuple take -/
structure Sq (ρ τ : Ty) where
  items : ρ.T → List τ.T
  rep : ∀ {K : Fg} {H : Hp} {v : V} {x : ρ.T}, ρ.rep K H v x → ∃ a us, v = .ref a ∧ (H a = some (.lst us) ∨ SqT K H a us) ∧ (items x).length ≤ sizeLine ∧ Paired (τ.rep K H) us (items x)
def sqList (τ : Ty) : Sq (tList τ) τ := ⟨fun x => x, fun ⟨a, us, h1, h2, h3, h4⟩ => ⟨a, us, h1, .inl h2, h3, h4⟩⟩
def sqTup (τ : Ty) : Sq (tTup τ) τ := ⟨fun x => x, fun ⟨a, us, h1, h2, h3, h4⟩ => ⟨a, us, h1, .inr h2, h3, h4⟩⟩
def sqSeq (τ : Ty) : Sq (tSeq τ) τ := ⟨fun x => x, fun h => h.elim (sqList τ).rep (sqTup τ).rep⟩
theorem oc_len {K : Fg} (s : Sq ρ τ) : OpC K (fun xs H Q => ∃ p ys, xs = [.ref p] ∧ (SqL K H p ys ∨ SqT K H p ys) ∧ Q (.int ys.length) H) ρ (kVal tInt) (fun x => .ok ((s.items x).length : Int)) := fun H Hv v x Q vw r z e q => by
  cases e
  obtain ⟨a, us, rfl, h2, h3, h4⟩ := s.rep r
  refine ⟨a, us, rfl, h2.elim (fun h => .inl (SqL.of (vw.sub _ _ h))) (fun h => .inr (sqT_mono vw.sub h)), ?_⟩
  rw [paired_len h4]
  exact q _ H Hv [] (Grow.refl vw) ⟨rfl, rfl⟩ fresh_nil
theorem pj_len (s : Sq ρ τ) {ma : Res ρ.T} (hg : B.sc.names.lookup ("len" : Str) = some .globalImplicit) (hm : B.mg "len" = none) (ha : PJ B G e ρ ma) (hs : ∀ env, starEach [e] env = (false, eval e env) :: starEach [] env := by intro _; rfl) :
    PJ B G (.Call (.Name "len" p) [e] [] pos) tInt (ma.bind fun x => .ok ((s.items x).length : Int)) :=
  pj_of_oj (κ := kVal tInt) (oj_cb (fun X ok => by have h := call_len_seq (X := X); rw [ok.K] at h; exact h) hg hm PySem.boot_len (oc_len s) ok_noexc ha (by decide) (by decide) hs)
theorem oc_list {K : Fg} (s : Sq ρ τ) : OpC K (fun xs H Q => ∃ p ys, xs = [.ref p] ∧ (SqL K H p ys ∨ SqT K H p ys) ∧ ∀ l, H l = none → Q (.ref l) (upd H l (.lst ys))) ρ (kL (kVal τ)) (fun x => .ok (s.items x)) := fun H Hv v x Q vw r z e q => by
  cases e
  obtain ⟨a, us, rfl, h2, h3, h4⟩ := s.rep r
  exact ⟨a, us, rfl, h2.elim (fun h => .inl (SqL.of (vw.sub _ _ h))) (fun h => .inr (sqT_mono vw.sub h)), fun l hl => newList vw hl h4 h3 q⟩
theorem oj_list (s : Sq ρ τ) {ma : Res ρ.T} (hg : B.sc.names.lookup ("list" : Str) = some .globalImplicit) (hm : B.mg "list" = none) (ha : PJ B G e ρ ma) (hs : ∀ env, starEach [e] env = (false, eval e env) :: starEach [] env := by intro _; rfl) :
    OJ B G (.Call (.Name "list" p) [e] [] pos) (kL (kVal τ)) (ma.bind fun x => .ok (s.items x)) :=
  oj_ct (fun X ok => by have h := call_list_of (X := X); rw [ok.K] at h; exact h) hg hm PyProof.Rows.boot_list (oc_list s) ok_noexc ha (by decide) (by decide) hs
theorem oc_tuple {K : Fg} (s : Sq ρ τ) : OpC K (fun xs H Q => ∃ p ys, xs = [.ref p] ∧ ((SqL K H p ys ∧ ∀ l, H l = none → Q (.ref l) (upd H l (.tup ys))) ∨ (SqT K H p ys ∧ Q (.ref p) H))) ρ (kVal (tTup τ)) (fun x => .ok (s.items x)) := fun H Hv v x Q vw r z e q => by
  cases e
  obtain ⟨a, us, rfl, h2, h3, h4⟩ := s.rep r
  refine ⟨a, us, rfl, h2.elim (fun h => .inl ⟨SqL.of (vw.sub _ _ h), fun l hl => ?_⟩) (fun h => .inr ⟨sqT_mono vw.sub h, ?_⟩)⟩
  · exact newTup vw hl h4 h3 fun v H' Hv' g r => q v H' Hv' [] g ⟨rfl, r⟩ fresh_nil
  · exact q _ H Hv [] (Grow.refl vw) ⟨rfl, a, us, rfl, h, h3, h4⟩ fresh_nil
theorem pj_tuple (s : Sq ρ τ) {ma : Res ρ.T} (hg : B.sc.names.lookup ("tuple" : Str) = some .globalImplicit) (hm : B.mg "tuple" = none) (ha : PJ B G e ρ ma) (hs : ∀ env, starEach [e] env = (false, eval e env) :: starEach [] env := by intro _; rfl) :
    PJ B G (.Call (.Name "tuple" p) [e] [] pos) (tTup τ) (ma.bind fun x => .ok (s.items x)) :=
  pj_of_oj (κ := kVal (tTup τ)) (oj_ct (fun X ok => by have h := call_tuple_of (X := X); rw [ok.K] at h; exact h) hg hm PyProof.Rows.boot_tuple (oc_tuple s) ok_noexc ha (by decide) (by decide) hs)
def b2I (b : Bool) : Int := if b then 1 else 0
theorem pj_int1 {ma : Res Int} (hg : B.sc.names.lookup ("int" : Str) = some .globalImplicit) (hm : B.mg "int" = none) (ha : PJ B G e tInt ma) (hs : ∀ env, starEach [e] env = (false, eval e env) :: starEach [] env := by intro _; rfl) : PJ B G (.Call (.Name "int" p) [e] [] pos) tInt ma :=
  (pj_of_oj (κ := kVal tInt) (oj_ct (ρ := tInt) (κ := kVal tInt) (g := fun (x : Int) => Res.ok x) (fun X _ => call_int1) hg hm PyProof.Rows.boot_int (fun H Hv v x Q vw r z e q => .inl ⟨x, by rw [show v = .int x from r], by cases e; exact q _ H Hv [] (Grow.refl vw) ⟨rfl, rfl⟩ fresh_nil⟩) ok_noexc ha (by decide) (by decide) hs)).cast (by cases ma <;> rfl)
theorem pj_intB {ma : Res Bool} (hg : B.sc.names.lookup ("int" : Str) = some .globalImplicit) (hm : B.mg "int" = none) (ha : PJ B G e tBool ma) (hs : ∀ env, starEach [e] env = (false, eval e env) :: starEach [] env := by intro _; rfl) : PJ B G (.Call (.Name "int" p) [e] [] pos) tInt (ma.bind fun (b : Bool) => .ok (b2I b)) :=
  pj_of_oj (κ := kVal tInt) (oj_ct (ρ := tBool) (κ := kVal tInt) (g := fun (x : Bool) => Res.ok (b2I x)) (fun X _ => call_int1) hg hm PyProof.Rows.boot_int (fun H Hv v x Q vw r z e q => .inr ⟨x, by rw [show v = .bl x from r], by cases e; exact q _ H Hv [] (Grow.refl vw) ⟨rfl, rfl⟩ fresh_nil⟩) ok_noexc ha (by decide) (by decide) hs)
def absI (x : Int) : Int := if x < 0 then -x else x
theorem pj_abs {ma : Res Int} (hg : B.sc.names.lookup ("abs" : Str) = some .globalImplicit) (hm : B.mg "abs" = none) (ha : PJ B G e tInt ma) (hs : ∀ env, starEach [e] env = (false, eval e env) :: starEach [] env := by intro _; rfl) : PJ B G (.Call (.Name "abs" p) [e] [] pos) tInt (ma.bind fun x => .ok (absI x)) :=
  pj_of_oj (κ := kVal tInt) (oj_cb (ρ := tInt) (κ := kVal tInt) (g := fun (x : Int) => Res.ok (absI x)) (fun X _ => call_abs) hg hm PyProof.Rows.boot_abs (fun H Hv v x Q vw r z e q => ⟨x, by rw [show v = .int x from r], by cases e; exact q _ H Hv [] (Grow.refl vw) ⟨rfl, rfl⟩ fresh_nil⟩) ok_noexc ha (by decide) (by decide) hs)
/-- the list of ints, ascending -/
def srt (xs : List Int) : List Int := xs.mergeSort (fun a b => decide (a ≤ b))
theorem srt_perm (xs : List Int) : (srt xs).Perm xs := List.mergeSort_perm _ _
theorem srt_asc (xs : List Int) : (srt xs).Pairwise (· ≤ ·) := by
  have := List.pairwise_mergeSort (le := fun a b => decide (a ≤ b)) (fun a b c h1 h2 => by simp at *; omega) (fun a b => by simp; omega) xs
  exact this.imp fun h => by simpa using h
theorem srt_unique {xs ys : List Int} (h : ys.Perm xs) (k : ys.Pairwise (· ≤ ·)) : ys = srt xs := (h.trans (srt_perm xs).symm).eq_of_pairwise (fun a b _ _ h1 h2 => Int.le_antisymm h1 h2) k (srt_asc xs)
theorem paired_ints {K : Fg} {H : Hp} : ∀ {us : List V} {xs : List Int}, Paired (tInt.rep K H) us xs → us = xs.map V.int
  | _, _, .nil => rfl
  | _, _, .cons r t => by rw [show _ = V.int _ from r, paired_ints t]; rfl
theorem ints_paired {K : Fg} {H : Hp} : ∀ xs : List Int, Paired (tInt.rep K H) (xs.map V.int) xs
  | [] => .nil
  | x :: xs => .cons rfl (ints_paired xs)
end
end TM

set_option Elab.async false
set_option linter.all false
set_option maxRecDepth 100000
set_option maxHeartbeats 4000000
/-! TL1: sorted of a tuple of ints (an addition to the library's rules). -/
namespace SrtO
open PySem PyProof.Rows Srt
section
variable {prog : Program} {w : World} {A : Around} {E : Value → Shared → Prop} {s : Shared}
theorem collect_tup {l : Addr} {vs : List Value} {Q : List Value → Shared → Prop} (hl : IsTup s.heap l vs.toArray)
    (h : Q vs { s with heap := (s.heap.push (seqObj "list" #[] 0)).update s.heap.objs.size (Obj.mapSeq (· ++ vs.toArray)) }) (hsz : vs.length ≤ sizeLine := by size_fits) :
    wpAny (model prog w) A (collect (.ref l)) Q E s := by
  obtain ⟨o, ho, hc, n, hd⟩ := id hl
  unfold collect
  refine wpAny_bind (wpAny_runValue (codeAny_builtin entry_proto_collect' ?_))
  show wpAny _ _ (do again (.builtin "list.__iadd__" ⟨[← newList [], .ref l], []⟩)) _ _ s
  refine wpAny_bind (wpAny_newList (wpAny_pure ⟨Code.quiet_builtin _ (by decide +kernel), codeAny_builtin entry_list_iadd' ?_⟩))
  show wpAny _ _ (Builtin.List.listExtendWith (.ref s.heap.objs.size) (.ref l) (.ref s.heap.objs.size)) _ _ { s with heap := s.heap.push (seqObj "list" #[] 0) }
  unfold Builtin.List.listExtendWith
  have ho' : (s.heap.push (seqObj "list" #[] 0)).get? l = some o := Heap.get?_push_of_some _ ho
  refine wpAny_bind (wpAny_typeOf (T := "tuple") ⟨o, ho', hc⟩ ?_)
  have ht : (Value.type "tuple" == Value.type "tuple") = true := by rfl
  rw [if_pos (by rw [ht]; simp)]
  refine wpAny_bind (listItems_at ho' hd ?_)
  refine wpAny_bind (listItems_at (xs := #[]) (n := 0) (Heap.get?_push_size _ rfl) rfl ?_)
  rw [if_neg (by simp)]
  refine wpAny_bind (listUpdate_at (xs := #[]) (n := 0) (Heap.get?_push_size _ rfl) rfl ?_ (Nat.zero_le _) (by show (#[] ++ vs.toArray).size ≤ sizeLine + 1; simp only [Array.size_append, List.size_toArray, List.length_nil]; omega))
  refine wpAny_pure ?_
  show wpAny (model prog w) A (do
      let o ← load s.heap.objs.size
      match o.data with
      | .seq xs _ => pure xs.toList
      | _ => unsupported "internal:collect") Q E { s with heap := (s.heap.push (seqObj "list" #[] 0)).update s.heap.objs.size (Obj.mapSeq (· ++ vs.toArray)) }
  refine wpAny_bind (wpAny_load (get?_update_seq (Heap.get?_push_size _ rfl) _) ?_)
  show wpAny _ _ (pure ((#[] : Array Value) ++ vs.toArray).toList) Q E _
  rw [show ((#[] : Array Value) ++ vs.toArray).toList = vs by simp]
  exact wpAny_pure h
theorem sorted_ordT {l : Addr} {vs : List Value} {ltv : Value → Value → Bool} {Q : Value → Shared → Prop} (O : Swo ltv) (hl : IsTup s.heap l vs.toArray) (hz : vs.length ≤ sizeLine)
    (hS : 2 ≤ vs.length → ∀ (h₁ : Heap) (a : Addr), h₁.get? a = some (seqObj "list" vs.toArray 0) → (∀ b o, s.heap.get? b = some o → b ≠ a ∧ h₁.get? b = some o) → SortableO prog w A.in1.in1 { s with heap := h₁ } a vs ltv)
    (h : ∀ out : List Value, Srtd ltv out → Stb ltv out vs → Q (.ref (s.heap.objs.size + 1)) { s with heap := sortedAll s.heap vs out.toArray }) :
    wpAny (model prog w) A (call (.builtin "sorted") [.ref l]) Q E s := by
  refine Calls.call_function_entry kind_sorted plain_sorted entry_sorted (args_sorted1 _) ?_
  unfold Builtin.«sorted»
  refine wpAny_bind (m := checkCount "sorted" 1 1 _) (wpAny_pure ?_)
  refine wpAny_bind (collect_tup hl ?_ hz)
  refine wpAny_bind (wpAny_newList ?_ hz)
  have hsz : ((s.heap.push (seqObj "list" #[] 0)).update s.heap.objs.size (Obj.mapSeq (· ++ vs.toArray))).objs.size = s.heap.objs.size + 1 := by
    rw [Heap.size_update, size_push']
  have hoL : (((s.heap.push (seqObj "list" #[] 0)).update s.heap.objs.size (Obj.mapSeq (· ++ vs.toArray))).push (seqObj "list" vs.toArray 0)).get? (s.heap.objs.size + 1) = some (seqObj "list" vs.toArray 0) := by
    rw [← hsz]; exact Heap.get?_push_size _ rfl
  have keep : ∀ b o, s.heap.get? b = some o → b ≠ s.heap.objs.size + 1 ∧ (((s.heap.push (seqObj "list" #[] 0)).update s.heap.objs.size (Obj.mapSeq (· ++ vs.toArray))).push (seqObj "list" vs.toArray 0)).get? b = some o := fun b o q => by
    have hlt : b < s.heap.objs.size := Heap.lt_size q
    refine ⟨Nat.ne_of_lt (Nat.lt_succ_of_lt hlt), Heap.get?_push_of_some _ ?_⟩
    rw [Heap.get?_update_ne _ _ _ _ (Nat.ne_of_lt hlt)]
    exact Heap.get?_push_of_some _ q
  show wpAny _ _ _ _ _ { s with heap := ((s.heap.push (seqObj "list" #[] 0)).update s.heap.objs.size (Obj.mapSeq (· ++ vs.toArray))).push (seqObj "list" vs.toArray 0) }
  rw [hsz]
  refine wpAny_bind (wpAny_holding (wpAny_call_entry slot_list_sort ⟨_, hoL, rfl⟩ entry_list_sort (list_sort_ord O hoL hz (fun h2 => hS h2 _ _ hoL keep) fun out hs hb => ⟨_, rfl, ?_⟩) (args_list_sort _)))
  exact wpAny_pure ⟨_, rfl, h out hs hb⟩
end
end SrtO
namespace L2
open PySem PySem.Spec PyProof.Rows
def rSortedIT (K : PySem.W.Frag) : List V → Hp → VK → Prop := fun vs H Q => ∃ (a : Addr) (ns : List Int), vs = [V.ref a] ∧ SqT K H a (ns.map V.int) ∧
  ∀ (ns' : List Int) (p : Addr), ns'.Perm ns → ns'.Pairwise (· ≤ ·) → H p = none → Q (.ref p) (upd H p (.lst (ns'.map V.int)))
theorem cr_sortedIT {X : Cx} : CallR X (.builtin "sorted") (rSortedIT X.K) := by
  intro pins s σ H vs us Q I r h
  obtain ⟨a, ns, rfl, hs, q⟩ := h
  obtain ⟨its, rv, hl, hz⟩ := I.tuple hs
  rw [Vals.ref1 r]
  have hi := rv.ints
  refine SrtO.sorted_ordT SrtO.swo_int hl (by rw [← rv.length]; exact hz) (fun h2 h₁ a' _ _ => SrtO.ints_sortable hi h2) fun out h1 h2 => ?_
  obtain ⟨k1, k2, k3⟩ := SrtO.ints_out hi h1 h2
  obtain ⟨ep, he'⟩ := PyProof.Rows.sortedAll_at s.heap its out.toArray
  have hlen : ((out.map SrtO.iv).map V.int).length ≤ sizeLine := by
    rw [List.length_map, k2.length_eq]
    rw [List.length_map] at hz
    exact hz
  exact ⟨.ref _, upd H (s.heap.objs.size + 1) (.lst ((out.map SrtO.iv).map V.int)), I.laid (t' := s.toks) (fun _ _ => PyProof.Rows.sortedAll_old) (Nat.le_succ _) ⟨hlen, out, ep, vals_of_ints k1, he'⟩, rfl, q _ _ k2 k3 (I.hok.fresh (Nat.le_succ _))⟩
end L2

set_option Elab.async false
set_option linter.all false
set_option maxRecDepth 100000
/-! TM15: sorted, displays, sums of lists, slices, in. -/
namespace TM
open PySem L2

theorem eqV_int (x y : Int) : eqV (.int x) (.int y) = decide (x = y) := by
  show (x == y) = _
  rw [Bool.beq_eq_decide_eq]
theorem inV_ints (x : Int) : ∀ xs : List Int, inV (.int x) (xs.map V.int) = decide (x ∈ xs)
  | [] => rfl
  | y :: xs => by
    show (eqV (.int y) (.int x) || inV (.int x) (xs.map V.int)) = _
    rw [inV_ints x xs, eqV_int]
    by_cases h : y = x
    · subst h; simp
    · have : x ≠ y := fun e => h e.symm
      simp [h, this]
theorem flat_ints (xs : List Int) : (xs.map V.int).all flatV = true := by
  rw [List.all_eq_true]
  intro v hv
  obtain ⟨i, _, rfl⟩ := List.mem_map.mp hv
  rfl
section
variable {B : Bd} {G : List Slot} {e e1 e2 a b c : Expr} {es : List Expr} {τ σ ρ υ : Ty} {κ : Kd} {pos p cpos : Pos} {n : Str}
def sqInts (s : Sq ρ tInt) : ρ.T → List Int := s.items
theorem oj_sorted (s : Sq ρ tInt) {ma : Res ρ.T} (hg : B.sc.names.lookup ("sorted" : Str) = some .globalImplicit) (hm : B.mg "sorted" = none) (ha : PJ B G e ρ ma) (hs : ∀ env, starEach [e] env = (false, eval e env) :: starEach [] env := by intro _; rfl) :
    OJ B G (.Call (.Name "sorted" p) [e] [] pos) (kL (kVal tInt)) (ma.bind fun x => .ok (srt (s.items x))) :=
  oj_cb (κ := kL (kVal tInt)) (g := fun x => Res.ok (srt (s.items x))) (fun X ok => by
    have h := CallR.or (cr_sortedI (X := X)) cr_sortedIT
    rw [ok.K] at h; exact h) hg hm PyProof.Rows.boot_sorted (fun H Hv v x Q vw r z e q => by
    cases e
    obtain ⟨a, us, rfl, h2, h3, h4⟩ := s.rep r
    have hu := paired_ints h4
    have fin : ∀ (ns' : List Int) (p : Addr), ns'.Perm (s.items x) → ns'.Pairwise (· ≤ ·) → H p = none → Q (.ref p) (upd H p (.lst (ns'.map V.int))) := fun ns' p k1 k2 k3 => by
      rw [srt_unique k1 k2]
      refine newList vw k3 (τ := tInt) (ints_paired _) ?_ q
      exact Nat.le_trans (Nat.le_of_eq (srt_perm (s.items x)).length_eq) h3
    rcases h2 with h | h
    · exact .inl ⟨a, s.items x, rfl, by rw [← hu]; exact SqL.of (vw.sub _ _ h), fin⟩
    · exact .inr ⟨a, s.items x, rfl, by rw [← hu]; exact sqT_mono vw.sub h, fin⟩) ok_noexc ha (by decide) (by decide) hs

/-! displays -/
/-- expressions of one type -/
def EsJ (B : Bd) (G : List Slot) (es : List Expr) (τ : Ty) (m : Res (List τ.T)) : Prop := ∃ t : WX → TA, (∀ X W, CxOk B X → Takes X W → PA X es (t W)) ∧
  ∀ (W : WX) (xok : Exc → Prop) (σ : St) (H Hv : Hp) (Q : List V → Hp → Prop), View H Hv → VEnv B.K Hv G σ → XW B xok W σ H → (m.wp xok fun xs => ∀ vs H' Hv', Grow H Hv H' Hv' → Paired (τ.rep B.K Hv') vs xs → xs.length = es.length → Q vs H') → t W σ H Q
theorem es_nil : EsJ B G [] τ (.ok []) := ⟨fun _ => tNil, fun _ _ _ _ => pa_nil, fun W xok σ H Hv Q v ve xw q => q [] H Hv (Grow.refl v) .nil rfl⟩
theorem es_cons {ma : Res τ.T} {mr : Res (List τ.T)} (ha : PJ B G e τ ma) (hr : EsJ B G es τ mr) (hs : ∀ env, starEach (e :: es) env = (false, eval e env) :: starEach es env := by intro _; rfl) : EsJ B G (e :: es) τ (ma.bind fun x => mr.bind fun xs => .ok (x :: xs)) := by
  obtain ⟨ta, a1, a2⟩ := ha
  obtain ⟨tr, r1, r2⟩ := hr
  refine ⟨fun W => tCons (ta W) (tr W), fun X W ok tk => pa_cons (a1 X W ok tk) (r1 X W ok tk) (hs X.env), fun W xok st H Hv Q v ve xw q => ?_⟩
  refine a2 W xok st H Hv _ v ve xw (Res.wp_mono (Res.wp_bind.mp q) fun x k u H1 Hv1 g1 ru => ?_)
  refine r2 W xok st H1 Hv1 _ g1.view (ve.mono g1.up) (xw.mono g1.same) (Res.wp_mono (Res.wp_bind.mp k) fun c k2 vs H2 Hv2 g2 rs hl => ?_)
  exact k2 (u :: vs) H2 Hv2 (g1.trans g2) (.cons (τ.mono g2.up ru) rs) (congrArg (· + 1) hl)
theorem EsJ.cast {m m' : Res (List τ.T)} (h : EsJ B G es τ m) (e' : m = m') : EsJ B G es τ m' := e' ▸ h
theorem oj_lst {m : Res (List τ.T)} (h : EsJ B G es τ m) (hl : es.length ≤ sizeLine) : OJ B G (.List es pos) (kL (kVal τ)) m := by
  obtain ⟨t, h1, h2⟩ := h
  refine ⟨fun W => tLst (t W), fun X W ok tk => pe_lst (h1 X W ok tk), fun W xok st H Hv Q v ve xw q => ?_⟩
  refine h2 W xok st H Hv _ v ve xw (Res.wp_mono q fun xs k vs H1 Hv1 g rs hlen => ?_)
  have hz : xs.length ≤ sizeLine := by rw [hlen]; exact hl
  exact ⟨by rw [paired_len rs]; exact hz, fun p hp => newList g.view hp rs hz fun v H' Hv' S g2 r f => k v H' Hv' S (g.trans g2) r (fresh_back g.same f)⟩
theorem pj_tupN {m : Res (List τ.T)} {x1} (h : EsJ B G es τ m) (hl : es.length ≤ sizeLine) : PJ B G (.Tuple es x1 pos) (tTup τ) m := by
  obtain ⟨t, h1, h2⟩ := h
  refine ⟨fun W => L2.tTup (t W), fun X W ok tk => pe_tup (h1 X W ok tk), fun W xok st H Hv Q v ve xw q => ?_⟩
  refine h2 W xok st H Hv _ v ve xw (Res.wp_mono q fun xs k vs H1 Hv1 g rs hlen => ?_)
  have hz : xs.length ≤ sizeLine := by rw [hlen]; exact hl
  exact ⟨by rw [paired_len rs]; exact hz, fun p hp => newTup g.view hp rs hz fun v H' Hv' g2 r => k v H' Hv' (g.trans g2) r⟩
theorem pj_tup2 {x1} {ma : Res σ.T} {mb : Res τ.T} (ha : PJ B G a σ ma) (hb : PJ B G b τ mb) (hs : ∀ env, starEach [a, b] env = (false, eval a env) :: starEach [b] env := by intro _; rfl) (hs2 : ∀ env, starEach [b] env = (false, eval b env) :: starEach [] env := by intro _; rfl) :
    PJ B G (.Tuple [a, b] x1 pos) (tT2 σ τ) (ma.bind fun x => mb.bind fun y => .ok (x, y)) := by
  obtain ⟨ta, a1, a2⟩ := ha
  obtain ⟨tb, b1, b2⟩ := hb
  refine ⟨fun W => L2.tTup (tCons (ta W) (tCons (tb W) tNil)), fun X W ok tk => pe_tup (pa_cons (a1 X W ok tk) (pa_cons (b1 X W ok tk) pa_nil (hs2 X.env)) (hs X.env)), fun W xok st H Hv Q v ve xw q => ?_⟩
  refine a2 W xok st H Hv _ v ve xw (Res.wp_mono (Res.wp_bind.mp q) fun x k u H1 Hv1 g1 r1 => ?_)
  refine b2 W xok st H1 Hv1 _ g1.view (ve.mono g1.up) (xw.mono g1.same) (Res.wp_mono (Res.wp_bind.mp k) fun y k w H2 Hv2 g2 r2 => ?_)
  refine ⟨by show 2 ≤ sizeLine; decide, fun p hp => ?_⟩
  have g3 := Grow.new (o := .tup [u, w]) g2.view hp
  exact k (.ref p) _ _ ((g1.trans g2).trans g3) ⟨p, u, w, rfl, SqT.of upd_same, σ.mono g3.up (σ.mono g2.up r1), τ.mono g3.up r2⟩
theorem pj_tup3 {x1} {ma : Res ρ.T} {mb : Res σ.T} {mc : Res τ.T} (ha : PJ B G a ρ ma) (hb : PJ B G b σ mb) (hc : PJ B G c τ mc) (hs : ∀ env, starEach [a, b, c] env = (false, eval a env) :: starEach [b, c] env := by intro _; rfl) (hs2 : ∀ env, starEach [b, c] env = (false, eval b env) :: starEach [c] env := by intro _; rfl) (hs3 : ∀ env, starEach [c] env = (false, eval c env) :: starEach [] env := by intro _; rfl) :
    PJ B G (.Tuple [a, b, c] x1 pos) (tT3 ρ σ τ) (ma.bind fun x => mb.bind fun y => mc.bind fun z => .ok (x, y, z)) := by
  obtain ⟨ta, a1, a2⟩ := ha
  obtain ⟨tb, b1, b2⟩ := hb
  obtain ⟨tc, c1, c2⟩ := hc
  refine ⟨fun W => L2.tTup (tCons (ta W) (tCons (tb W) (tCons (tc W) tNil))), fun X W ok tk => pe_tup (pa_cons (a1 X W ok tk) (pa_cons (b1 X W ok tk) (pa_cons (c1 X W ok tk) pa_nil (hs3 X.env)) (hs2 X.env)) (hs X.env)), fun W xok st H Hv Q v ve xw q => ?_⟩
  refine a2 W xok st H Hv _ v ve xw (Res.wp_mono (Res.wp_bind.mp q) fun x k u H1 Hv1 g1 r1 => ?_)
  refine b2 W xok st H1 Hv1 _ g1.view (ve.mono g1.up) (xw.mono g1.same) (Res.wp_mono (Res.wp_bind.mp k) fun y k w H2 Hv2 g2 r2 => ?_)
  refine c2 W xok st H2 Hv2 _ g2.view ((ve.mono g1.up).mono g2.up) ((xw.mono g1.same).mono g2.same) (Res.wp_mono (Res.wp_bind.mp k) fun z k y3 H3 Hv3 g3 r3 => ?_)
  refine ⟨by show 3 ≤ sizeLine; decide, fun p hp => ?_⟩
  have g4 := Grow.new (o := .tup [u, w, y3]) g3.view hp
  exact k (.ref p) _ _ (((g1.trans g2).trans g3).trans g4) ⟨p, u, w, y3, rfl, SqT.of upd_same, ρ.mono g4.up (ρ.mono g3.up (ρ.mono g2.up r1)), σ.mono g4.up (σ.mono g3.up r2), τ.mono g4.up r3⟩

/-! new lists of two parts -/
def Op2O (K : Fg) (r : R2) (ρ σ : Ty) (κ : Kd) (g : ρ.T → σ.T → Res κ.ty.T) : Prop := ∀ (H Hv : Hp) (v w : V) (x : ρ.T) (y : σ.T) (Q : VK), View H Hv → ρ.rep K Hv v x → σ.rep K Hv w y → ∀ z, g x y = .ok z → (∀ u H' Hv' S, Grow H Hv H' Hv' → κ.rep K S H' Hv' u z → Fresh S H H' Hv' → Q u H') → r v w H Q
theorem oj_op {r : R2} {op : Operator} {ma : Res ρ.T} {mb : Res σ.T} {g : ρ.T → σ.T → Res κ.ty.T} (ho : ∀ X, CxOk B X → OpR X (binaryOp op) r) (hr : Op2O B.K r ρ σ κ g) (hx : ∀ x y ex, g x y ≠ .exc ex) (ha : PJ B G a ρ ma) (hb : PJ B G b σ mb) :
    OJ B G (.BinOp a op b pos) κ (ma.bind fun x => mb.bind fun y => g x y) := by
  obtain ⟨ta, a1, a2⟩ := ha
  obtain ⟨tb, b1, b2⟩ := hb
  refine ⟨fun W => tOp r (ta W) (tb W), fun X W ok tk => pe_op (ho X ok) (a1 X W ok tk) (b1 X W ok tk), fun W xok st H Hv Q v ve xw q => ?_⟩
  refine two (fun H Hv Q => a2 W xok st H Hv Q) (fun H Hv Q => b2 W xok st H Hv Q) v ve xw q fun x y v w H' Hv' q' g' r1 r2 => ?_
  cases e : g x y with
  | ok z =>
    rw [e] at q'
    exact hr H' Hv' v w x y Q g'.view r1 r2 z e fun u H2 Hv2 S g2 r3 f => q' u H2 Hv2 S (g'.trans g2) r3 (fresh_back g'.same f)
  | exc ex => exact (hx x y ex e).elim
  | bad => rw [e] at q'; exact q'.elim
def catR {α : Type} (xs ys : List α) : Res (List α) := gate (xs.length + ys.length ≤ sizeLine) (xs ++ ys)
def repR {α : Type} (xs : List α) (k : Int) : Res (List α) := gate (-(2 ^ 63) ≤ k ∧ k < 2 ^ 63 ∧ xs.length * k.toNat ≤ sizeLine) (List.replicate k.toNat xs).flatten
theorem catR_exc {α : Type} (xs ys : List α) (ex : Exc) : catR xs ys ≠ .exc ex := gate_exc
theorem repR_exc {α : Type} (xs : List α) (k : Int) (ex : Exc) : repR xs k ≠ .exc ex := gate_exc
theorem oj_cat {ma mb : Res (List τ.T)} (ha : PJ B G a (tList τ) ma) (hb : PJ B G b (tList τ) mb) : OJ B G (.BinOp a .Add b pos) (kL (kVal τ)) (ma.bind fun x => mb.bind fun y => catR x y) :=
  oj_op (fun _ _ => op_cat) (fun H Hv v w x y Q vw r1 r2 z e q => by
    obtain ⟨p1, u1, rfl, h1, h2, h3⟩ := r1
    obtain ⟨p2, u2, rfl, k1, k2, k3⟩ := r2
    obtain ⟨c, h⟩ := gate_inv (show gate _ _ = Res.ok z from e)
    subst h
    refine ⟨p1, p2, u1, u2, rfl, rfl, vw.sub _ _ h1, vw.sub _ _ k1, by rw [paired_len h3, paired_len k3]; exact c, fun p hp => newList vw hp (paired_append h3 k3) (Nat.le_trans (Nat.le_of_eq List.length_append) c) q⟩) (fun x y ex => catR_exc x y ex) ha hb
theorem paired_rep {α β : Type} {F : α → β → Prop} {l : List α} {m : List β} (h : Paired F l m) : ∀ n : Nat, Paired F (List.replicate n l).flatten (List.replicate n m).flatten
  | 0 => .nil
  | n + 1 => by
    rw [List.replicate_succ, List.replicate_succ, List.flatten_cons, List.flatten_cons]
    exact paired_append h (paired_rep h n)
theorem oj_rep {ma : Res (List τ.T)} {mb : Res Int} (ha : PJ B G a (tList τ) ma) (hb : PJ B G b tInt mb) : OJ B G (.BinOp a .Mult b pos) (kL (kVal τ)) (ma.bind fun x => mb.bind fun y => repR x y) :=
  oj_op (ρ := tList τ) (σ := tInt) (κ := kL (kVal τ)) (g := fun x y => repR x y) (fun _ _ => op_rep) (fun H Hv v w x (y : Int) Q vw r1 r2 z e q => by
    obtain ⟨p1, u1, rfl, h1, h2, h3⟩ := r1
    obtain ⟨c, h⟩ := gate_inv (show gate _ _ = Res.ok z from e)
    subst h
    refine ⟨p1, y, u1, rfl, r2, vw.sub _ _ h1, c.1, c.2.1, by rw [paired_len h3]; exact c.2.2, fun p hp => newList vw hp (paired_rep h3 y.toNat) (by rw [List.length_flatten, List.map_replicate, List.sum_replicate_nat, Nat.mul_comm]; exact c.2.2) q⟩) (fun x y ex => repR_exc x y ex) ha hb

/-! in, not in (ints) -/
inductive InOpK : CmpOp → Bool → Prop
  | isin : InOpK .In false
  | notin : InOpK .NotIn true
theorem InOpK.rule {op : CmpOp} {k : Bool} (h : InOpK op k) {X : Cx} (ok : CxOk B X) : OpR X (compareOp op) (rIn B.K k) := by
  cases h
  · have h := op_in_seq (X := X); rw [ok.K] at h; exact h
  · have h := op_notIn_seq (X := X); rw [ok.K] at h; exact h
def inb (k : Bool) (x : Int) (xs : List Int) : Bool := if k then !decide (x ∈ xs) else decide (x ∈ xs)
theorem o2_in {K : Fg} {k : Bool} (s : Sq ρ tInt) : Op2 K (rIn K k) tInt ρ tBool (fun (x : Int) y => .ok (inb k x (s.items y))) := fun H Hv v w x y Q vw r1 r2 z e q => by
  cases e
  obtain ⟨a, us, rfl, h2, h3, h4⟩ := s.rep r2
  have hu := paired_ints h4
  subst hu
  obtain rfl : v = .int x := r1
  refine ⟨a, _, rfl, h2.elim (fun h => .inl (SqL.of (vw.sub _ _ h))) (fun h => .inr (sqT_mono vw.sub h)), rfl, flat_ints _, ?_⟩
  rw [inV_ints]
  exact q _ H Hv (Grow.refl vw) rfl
theorem pj_in {op : CmpOp} {k : Bool} (ho : InOpK op k) (s : Sq ρ tInt) {ma : Res Int} {mb : Res ρ.T} (hm : behindInMarks op b = false) (ha : PJ B G a tInt ma) (hb : PJ B G b ρ mb) : PJ B G (.Compare a [op] [b] pos) tBool (ma.bind fun (x : Int) => mb.bind fun y => .ok (inb k x (s.items y))) :=
  pj_cmp (fun X ok => ho.rule ok) hm (o2_in s) (fun _ _ _ h => nomatch h) ha hb
theorem tj_in {op : CmpOp} {k : Bool} (ho : InOpK op k) (s : Sq ρ tInt) {ma : Res Int} {mb : Res ρ.T} (hm : behindInMarks op b = false) (ha : PJ B G a tInt ma) (hb : PJ B G b ρ mb) : TJ B G (.Compare a [op] [b] pos) (ma.bind fun (x : Int) => mb.bind fun y => .ok (inb k x (s.items y))) :=
  tj_cmp (fun X ok => ho.rule ok) hm (o2_in s) (fun _ _ _ h => by cases h) ha hb

/-! slices -/
def cutT {α : Type} (xs : List α) (lo hi : Option Int) : List α := (xs.drop (HT.sIx xs.length 0 lo)).take (HT.sIx xs.length xs.length hi - HT.sIx xs.length 0 lo)
theorem paired_drop {α β : Type} {F : α → β → Prop} : ∀ {l : List α} {m : List β} (n : Nat), Paired F l m → Paired F (l.drop n) (m.drop n)
  | _, _, 0, h => h
  | _, _, _ + 1, .nil => .nil
  | _, _, n + 1, .cons _ t => paired_drop n t
theorem paired_take {α β : Type} {F : α → β → Prop} : ∀ {l : List α} {m : List β} (n : Nat), Paired F l m → Paired F (l.take n) (m.take n)
  | _, _, 0, _ => .nil
  | _, _, _ + 1, .nil => .nil
  | _, _, n + 1, .cons r t => .cons r (paired_take n t)
def PoJ (B : Bd) (G : List Slot) (e : Option Expr) (m : Res (Option Int)) : Prop := ∃ t : WX → TO, (∀ X W, CxOk B X → Takes X W → PO X e (t W)) ∧
  ∀ (W : WX) (xok : Exc → Prop) (σ : St) (H Hv : Hp) (Q : Option Int → Hp → Prop), View H Hv → VEnv B.K Hv G σ → XW B xok W σ H → (m.wp xok fun x => ∀ H' Hv', Grow H Hv H' Hv' → Q x H') → t W σ H Q
theorem po_no : PoJ B G none (.ok none) := ⟨fun _ => tNoPart, fun _ _ _ _ => po_none, fun W xok σ H Hv Q v ve xw q => q H Hv (Grow.refl v)⟩
theorem po_yes {m : Res Int} (h : PJ B G e tInt m) : PoJ B G (some e) (m.bind fun x => .ok (some x)) := by
  obtain ⟨t, h1, h2⟩ := h
  exact ⟨fun W => tPart (t W), fun X W ok tk => po_some (h1 X W ok tk), fun W xok σ H Hv Q v ve xw q => h2 W xok σ H Hv _ v ve xw (Res.wp_mono (Res.wp_bind.mp q) fun x k u H' Hv' g r => ⟨x, r, k H' Hv' g⟩)⟩
theorem oj_slice {lo hi : Option Expr} {p2 : Pos} {ma : Res (List τ.T)} {ml mh : Res (Option Int)} (ha : PJ B G a (tList τ) ma) (hl : PoJ B G lo ml) (hh : PoJ B G hi mh) : OJ B G (.Subscript a (.Slice lo hi none p2) pos) (kL (kVal τ)) (ma.bind fun x => ml.bind fun l => mh.bind fun h => .ok (cutT x l h)) := by
  obtain ⟨ta, a1, a2⟩ := ha
  obtain ⟨tl, l1, l2⟩ := hl
  obtain ⟨th, h1, h2⟩ := hh
  refine ⟨fun W => tSl (rSlL B.K) (ta W) (tl W) (th W), fun X W ok tk => pe_slice (by have h := sl_list (X := X); rw [ok.K] at h; exact h) (a1 X W ok tk) (l1 X W ok tk) (h1 X W ok tk), fun W xok st H Hv Q v ve xw q => ?_⟩
  refine a2 W xok st H Hv _ v ve xw (Res.wp_mono (Res.wp_bind.mp q) fun x k u H1 Hv1 g1 r1 => ?_)
  refine l2 W xok st H1 Hv1 _ g1.view (ve.mono g1.up) (xw.mono g1.same) (Res.wp_mono (Res.wp_bind.mp k) fun l k H2 Hv2 g2 => ?_)
  refine h2 W xok st H2 Hv2 _ g2.view ((ve.mono g1.up).mono g2.up) ((xw.mono g1.same).mono g2.same) (Res.wp_mono (Res.wp_bind.mp k) fun h k H3 Hv3 g3 => ?_)
  obtain ⟨p, us, rfl, e2, e3, e4⟩ := (tList τ).mono (g2.up.trans g3.up) r1
  have hlen := paired_len e4
  refine ⟨p, us, rfl, SqL.of (g3.view.sub _ _ e2), fun q hq => newList g3.view hq (xs := cutT x l h) ?_ ?_ fun v H' Hv' S g4 r f => k v H' Hv' S (((g1.trans g2).trans g3).trans g4) r (fresh_back ((g1.trans g2).trans g3).same f)⟩
  · unfold cutV cutT
    rw [hlen]
    exact paired_take _ (paired_drop _ e4)
  · unfold cutT
    rw [List.length_take, List.length_drop]
    omega
end
end TM

set_option Elab.async false
set_option linter.all false
set_option maxRecDepth 100000
/-! TM16: instances: fields, methods, making; raise. -/
namespace TM
open PySem L2

abbrev FV := Σ τ : Ty, τ.T
/-- an instance of the class at C whose fields are as flds tells -/
@[reducible] def tIns (C : Addr) (T : Type) (flds : T → List (Str × FV)) : Ty := ⟨T, fun K H v x => ∃ a dx fs, v = .ref a ∧ H a = some (.ins C dx fs) ∧ (∀ f p, (flds x).lookup f = some p → ∃ u, fs.lookup f = some u ∧ p.1.rep K H u p.2) ∧ ∀ f, (flds x).lookup f = none → fs.lookup f = none,
  fun e ⟨a, dx, fs, h1, h2, h3, h4⟩ => ⟨a, dx, fs, h1, e _ _ h2, fun f p hp => let ⟨u, k1, k2⟩ := h3 f p hp; ⟨u, k1, p.1.mono e k2⟩, h4⟩⟩
/-- an instance of one's own, its fields stable things -/
@[reducible] def kIns (pin : Addr → Prop) (C : Addr) (T : Type) (flds : T → List (Str × FV)) : Kd where
  ty := tIns C T flds
  st := false
  rep := fun K S H Hs v x => ∃ a dx fs, v = .ref a ∧ pin a ∧ S = [a] ∧ H a = some (.ins C dx fs) ∧ fs.length ≤ (flds x).length ∧ (∀ f p, (flds x).lookup f = some p → ∃ u, fs.lookup f = some u ∧ p.1.rep K Hs u p.2) ∧ ∀ f, (flds x).lookup f = none → fs.lookup f = none
  keep := fun ⟨a, dx, fs, h1, h0, h2, h3, h6, h4, h5⟩ k e => ⟨a, dx, fs, h1, h0, h2, k a (by rw [h2]; exact List.mem_singleton.mpr rfl) _ h3, h6, fun f p hp => let ⟨u, k1, k2⟩ := h4 f p hp; ⟨u, k1, p.1.mono e k2⟩, h5⟩
  thaw := fun ⟨a, dx, fs, h1, _, h2, h3, h6, h4, h5⟩ e k => ⟨a, dx, fs, h1, k a (by rw [h2]; exact List.mem_singleton.mpr rfl) _ h3, fun f p hp => let ⟨u, k1, k2⟩ := h4 f p hp; ⟨u, k1, p.1.mono e k2⟩, h5⟩
  stab := fun h => nomatch h
theorem lookup_put {f g : Str} {v : V} : ∀ {fs : List (Str × V)}, (putF f v fs).lookup g = if g = f then some v else fs.lookup g := fun {fs} => lookup_putF f g v fs
theorem length_put {f : Str} {v : V} : ∀ {fs : List (Str × V)}, (putF f v fs).length ≤ fs.length + 1
  | [] => Nat.le_refl _
  | (g, w) :: fs => by
    unfold putF
    split
    · exact Nat.le_succ _
    · exact Nat.succ_le_succ length_put

section
variable {B : Bd} {G : List Slot} {e o a b value : Expr} {es : List Expr} {τ σ ρ : Ty} {κ : Kd} {pos p cpos apos pos' : Pos} {n m f : Str} {C : Addr} {T T' : Type} {pin : Addr → Prop} {flds : T → List (Str × FV)} {rest : List Stmt} {α β γ A : Type} {fin : α → Fin}
theorem pj_fld {mo : Res T} {get : T → τ.T} (hc : Cls B.K C) (hn : NoAttr B.K C f) (hf : ∀ x, (flds x).lookup f = some ⟨τ, get x⟩) (ho : PJ B G o (tIns C T flds) mo) (hb : ∀ env, attributeBase o f env (eval o env) = eval o env := by intro _; rfl) :
    PJ B G (.Attribute o f pos) τ (mo.bind fun x => .ok (get x)) := by
  obtain ⟨t, h1, h2⟩ := ho
  refine ⟨fun W => tFld B.K (t W) f, fun X W ok tk => by rw [← ok.K]; exact pe_fld (h1 X W ok tk) (hb X.env), fun W xok st H Hv Q v ve xw q => ?_⟩
  refine h2 W xok st H Hv _ v ve xw (Res.wp_mono (Res.wp_bind.mp q) fun x k u H1 Hv1 g r => ?_)
  obtain ⟨a, dx, fs, rfl, e2, e3, e4⟩ := r
  obtain ⟨u, k1, k2⟩ := e3 f _ (hf x)
  exact ⟨a, C, dx, fs, u, rfl, g.view.sub _ _ e2, hc, hn, k1, k u H1 Hv1 g k2⟩
/-- self.f = e -/
theorem bj_fld (i : Nat) {m1 : Res β} {G1 : β → List Slot} {v : β → τ.T} {xs0 : T} {xs : β → T} {flds' : T × τ.T → List (Str × FV)} {m2 : β → Res α} (hc : Cls B.K C) (hn : NoAttr B.K C f) (hi : B.N[i]? = some n) (hv : Vis B.sc n) (hg0 : G[i]? = some (some ⟨kIns pin C T flds, xs0⟩)) (he : EJ B G value m1 G1 (kVal τ) v)
    (hg : ∀ b, (G1 b)[i]? = some (some ⟨kIns pin C T flds, xs b⟩)) (hf : ∀ p, flds' p = (f, ⟨τ, p.2⟩) :: flds p.1) (hl : ∀ x, (flds x).length < 900) (hr : ∀ b, BJ B ((G1 b).set i (some ⟨kIns pin C (T × τ.T) flds', (xs b, v b)⟩)) rest (m2 b) fin)
    (hs : ∀ env, swapsWith value (some (.Attribute (.Name n p) f pos')) pos.line env = pure false := by intro _; rfl) (hd : (n == ("__debug__" : Str)) = false := by decide) (hcd : (n == ("__classdict__" : Str)) = false := by decide) :
    BJ B G (.Assign [.Attribute (.Name n p) f pos'] value pos :: rest) (m1.bind m2) fin := fun X W ok tk => by
  refine pss_imp (pss_cons (ps_fld (pe_var (i := i) (by rw [ok.N]; exact hi) (by rw [ok.sc]; exact hv) hd hcd) (he X W ok.toCxOk tk) (hs X.env)) (pss_ex fun b => hr b X W ok tk)) fun D σ H ⟨fr, xok, Hs, xs', env, q⟩ => ?_
  have hval : ∃ a0, σ[i]? = some (some (.ref a0)) := by
    obtain ⟨SG, SD, a, _, _⟩ := id env
    obtain ⟨S, ov, e1, e2, v, e3, a0, dx, fs, rfl, _, _⟩ := a.get hg0
    exact ⟨a0, by rw [e2, e3]⟩
  obtain ⟨a0, e1⟩ := hval
  refine ⟨fr, xok, [], [], Hs, xs', env, Res.wp_mono (Res.wp_bind.mp q) fun b k u H1 Hs1 env1 => ⟨_, e1, ?_⟩⟩
  obtain ⟨SG, SD, a, bb, o⟩ := env1
  obtain ⟨S, ov, f1, f2, v', f3, a1, dx, fs, rfl, hpin, rfl, h3, h6, h4, h5⟩ := a.get (hg b)
  have : a1 = a0 := by rw [f3] at f2; rw [f2] at e1; exact V.ref.inj (Option.some.inj (Option.some.inj e1))
  subst this
  cases SD with
  | nil => exact bb.elim
  | cons S SD =>
    obtain ⟨w, ew, hS, rw'⟩ := bb.1
    cases ew
    subst hS
    have nd := own_nodup o f1
    refine ⟨a1, C, dx, fs, rfl, h3, by rw [ok.K]; exact hc, by rw [ok.K]; exact hn, Nat.lt_of_le_of_lt h6 (Nat.lt_trans (hl _) (by decide)), b, fr, xok, Hs1, xs', ?_, k⟩
    refine env_upd (S' := [a1]) (SD := [] :: SD) (SD' := SD) (p := a1) (vs' := []) a o f1 (List.mem_singleton.mpr rfl) trivial (by rw [f2, f3]) ⟨_, rfl, a1, dx, putF f u fs, rfl, hpin, rfl, upd_same, ?_, fun g p hp => ?_, fun g hp => ?_⟩ (sls_off bb.2 ?_) fun c => by rw [List.flatten_cons, List.nil_append]; exact Nat.le_refl _
    · rw [hf, List.length_cons]
      exact Nat.le_trans length_put (Nat.succ_le_succ h6)
    · rw [hf, List.lookup_cons] at hp
      rw [lookup_put]
      by_cases e : g = f
      · subst e
        rw [beq_self_eq_true] at hp
        cases hp
        exact ⟨u, if_pos rfl, rw'⟩
      · rw [beq_eq_false_iff_ne.mpr e] at hp
        rw [if_neg e]
        exact h4 g p hp
    · rw [hf, List.lookup_cons] at hp
      rw [lookup_put]
      by_cases e : g = f
      · subst e; rw [beq_self_eq_true] at hp; cases hp
      · rw [beq_eq_false_iff_ne.mpr e] at hp
        rw [if_neg e]
        exact h5 g hp
    · exact fun m => by
        have := nd a1
        rw [List.flatten_cons, List.nil_append] at this
        have h1 := mem_count.mp m
        rw [List.count_cons_self] at this
        omega

/-! methods -/
theorem pe_methT {X : Cx} {CX : CXT} {k : Nat} {g : Addr} {fd : FuncData} {ps : List Str} {sp : Sp} {E : St → XK} {ta : TE} {t : TA} {pl : Sem Bool} (he : PE X o ta) (c : Cls X.K C) (hm : Meth X.K C m g) (F : FnOk X.prog X.w X.K X.mg X.base CX k g fd ps sp) (hr : Room k X.A) (hb : Binds X.K fd ps []) (hx : ∀ σ, PassesAt CX X σ (E σ)) (ha : PA X (e :: es) t)
    (hst : starEach (e :: es) X.env = (false, eval e X.env) :: starEach es X.env := by rfl) (hpl : (backTo pos (starEach es X.env)).any (·.1) = false := by rfl)
    (ht : eval (.Call (.Attribute o m apos) (e :: es) [] pos) X.env = (do
      let ov ← eval o X.env
      standAt apos.atName
      let (f, first) ← holding [ov] (getMethod ov m pl)
      callWith pos f first (backTo pos (starEach (e :: es) X.env)) (backToKw pos (keywordEach [] X.env))) := by rfl) :
    PE X (.Call (.Attribute o m apos) (e :: es) [] pos) (fun σ H Q => ta σ H fun x H1 => ∃ a dx fs, x = .ref a ∧ H1 a = some (.ins C dx fs) ∧ fs.lookup m = none ∧ t σ H1 fun vs H2 => sp (x :: vs) H2 Q (E σ)) := by
  refine ⟨fun pins s σ H Q I h => ?_⟩
  refine PySem.W.methodCall_KW (pl := _) (thn (he.run pins s σ H _ I h) fun u s1 ⟨x, H1, I1, rx, a, dx, fs, ex, ea, l, q⟩ => ?_) ht
  subst ex
  obtain rfl : u = Value.ref a := rx
  refine getmeth_ok I1 ea c hm l ?_
  refine PySem.W.callWith_K (first := [.ref a]) (h₀ := X.base) I.ok.mod.kin hm.kp (thn (ha.run pos pins s1 σ H1 _ I1 q) fun us s2 ⟨vs, H2, I2, r, q2⟩ => ⟨I2.kIn, ?_⟩) hst hpl
  exact run_fnS (us := .ref a :: us) (vs := .ref a :: vs) F hr hb (hx σ) I2 (.cons rfl r) q2
theorem pe_methT0 {X : Cx} {CX : CXT} {k : Nat} {g : Addr} {fd : FuncData} {ps : List Str} {sp : Sp} {E : St → XK} {ta : TE} {pl : Sem Bool} (he : PE X o ta) (c : Cls X.K C) (hm : Meth X.K C m g) (F : FnOk X.prog X.w X.K X.mg X.base CX k g fd ps sp) (hr : Room k X.A) (hb : Binds X.K fd ps []) (hx : ∀ σ, PassesAt CX X σ (E σ))
    (ht : eval (.Call (.Attribute o m apos) [] [] pos) X.env = (do
      let ov ← eval o X.env
      standAt apos.atName
      let (f, first) ← holding [ov] (getMethod ov m pl)
      callWith pos f first (backTo pos (starEach [] X.env)) (backToKw pos (keywordEach [] X.env))) := by rfl) :
    PE X (.Call (.Attribute o m apos) [] [] pos) (fun σ H Q => ta σ H fun x H1 => ∃ a dx fs, x = .ref a ∧ H1 a = some (.ins C dx fs) ∧ fs.lookup m = none ∧ sp [x] H1 Q (E σ)) := by
  refine ⟨fun pins s σ H Q I h => ?_⟩
  refine PySem.W.methodCall_KW (pl := _) (thn (he.run pins s σ H _ I h) fun u s1 ⟨x, H1, I1, rx, a, dx, fs, ex, ea, l, q⟩ => ?_) ht
  subst ex
  obtain rfl : u = Value.ref a := rx
  refine getmeth_ok I1 ea c hm l ?_
  exact PySem.W.callWith_K0 (first := [.ref a]) I1.kIn hm.kp (run_fnS (us := [.ref a]) (vs := [.ref a]) F hr hb (hx σ) I1 (.cons rfl .nil) q)
structure MethAt (B : Bd) (C : Addr) (m : Str) (ps : List Str) (sp : Sp) : Prop where
  ex : ∃ f fd j, j ≤ B.k ∧ FnOk B.P B.w B.K B.mg B.base (L2.CX B.P B.w) j f fd ps sp ∧ Meth B.K C m f ∧ Binds B.K fd ps []
  cls : Cls B.K C
theorem oj_meth {ps : List Str} {Gp : (Nat → Addr) → A → List Slot} {F : A → Res β} {Gx : (Nat → Addr) → β → List Slot} {y : β → κ.ty.T} {k : Nat} {mo : Res T} {ma : Res γ} {out : γ → List FV} {arg : T → γ → A}
    (fn : MethAt B C m ps (SpOf B.K B.mg k Gp F Gx κ y)) (ho : PJ B G o (tIns C T flds) mo) (hm0 : ∀ x, (flds x).lookup m = none) (ha : AJ B G (e :: es) ma out) (hs : ∀ pn x c, Gp pn (arg x c) = svs (⟨tIns C T flds, x⟩ :: out c)) (hk : ∀ c, (out c).length + 1 = k)
    (hst : ∀ env, starEach (e :: es) env = (false, eval e env) :: starEach es env := by intro _; rfl) (hpl : ∀ env, (backTo pos (starEach es env)).any (·.1) = false := by intro _; rfl)
    (ht : ∀ env, eval (.Call (.Attribute o m apos) (e :: es) [] pos) env = (do
      let ov ← eval o env
      standAt apos.atName
      let (f, first) ← holding [ov] (getMethod ov m (do return (← importBound o env).getD true))
      callWith pos f first (backTo pos (starEach (e :: es) env)) (backToKw pos (keywordEach [] env))) := by intro _; rfl) (hcalm : B.calm = true := by rfl) :
    OJ B G (.Call (.Attribute o m apos) (e :: es) [] pos) κ (mo.bind fun x => ma.bind fun c => (F (arg x c)).bind fun b => .ok (y b)) := by
  obtain ⟨⟨f, fd, j, hj, fo, hm, hb⟩, hcl⟩ := fn
  obtain ⟨to, o1, o2⟩ := ho
  obtain ⟨ta, a1, a2⟩ := ha
  refine ⟨fun W => fun σ H Q => to W σ H fun x H1 => ∃ a dx fs, x = .ref a ∧ H1 a = some (.ins C dx fs) ∧ fs.lookup m = none ∧ ta W σ H1 fun vs H2 => SpOf B.K B.mg k Gp F Gx κ y (x :: vs) H2 Q (WE W σ), fun X W ok tk => pe_methT (pl := _) (o1 X W ok tk) (by rw [ok.K]; exact hcl) (by rw [ok.K]; exact hm) (ok.fn fo) ((ok.room hcalm).mono hj) (by rw [ok.K]; exact hb)
    (fun σ => passAt tk σ) (a1 X W ok tk) (hst X.env) (hpl X.env) (ht X.env), fun W xok st H Hv Q v ve xw q => ?_⟩
  refine o2 W xok st H Hv _ v ve xw (Res.wp_mono (Res.wp_bind.mp q) fun x k1 u H0 Hv0 g0 ro => ?_)
  have ro' : (tIns C T flds).rep B.K Hv0 u x := ro
  obtain ⟨a, dx, fs, rfl, e2, e3, e4⟩ := ro
  refine ⟨a, dx, fs, rfl, g0.view.sub _ _ e2, e4 m (hm0 x), ?_⟩
  refine a2 W xok st H0 Hv0 _ g0.view (ve.mono g0.up) (xw.mono g0.same) (Res.wp_mono (Res.wp_bind.mp k1) fun c k2 vs H1 Hv1 g1 rs => ?_)
  have rs' : stab_sls B.K Hv1 (.ref a :: vs) (⟨tIns C T flds, x⟩ :: out c) := ⟨(tIns C T flds).mono g1.up ro', rs⟩
  refine ⟨by rw [List.length_cons, rs.len2]; exact hk c, fun _ => 0, arg x c, [], Hv1, xok, ?_, ?_, ?_⟩
  · rw [hs]
    refine ⟨List.replicate (V.ref a :: vs).length [], [], sls_of rs', trivial, ?_⟩
    rw [flatten_nils]
    exact own_new g1.view
  · exact fun ex hx cls d H' s r => ((xw.mono g0.same).mono g1.same) ex hx cls d H' (fun b o e => s b o e List.not_mem_nil) r
  · refine Res.wp_mono (Res.wp_bind.mp k2) fun b k3 u σ' H' Hs' env => ?_
    obtain ⟨S, g2, r, fr⟩ := pure_back env
    exact k3 u H' Hs' S ((g0.trans g1).trans g2) r (fresh_back (g0.trans g1).same fr)
theorem oj_meth0 {ps : List Str} {Gp : (Nat → Addr) → A → List Slot} {F : A → Res β} {Gx : (Nat → Addr) → β → List Slot} {y : β → κ.ty.T} {mo : Res T} {arg : T → A}
    (fn : MethAt B C m ps (SpOf B.K B.mg 1 Gp F Gx κ y)) (ho : PJ B G o (tIns C T flds) mo) (hm0 : ∀ x, (flds x).lookup m = none) (hs : ∀ pn x, Gp pn (arg x) = svs [⟨tIns C T flds, x⟩])
    (ht : ∀ env, eval (.Call (.Attribute o m apos) [] [] pos) env = (do
      let ov ← eval o env
      standAt apos.atName
      let (f, first) ← holding [ov] (getMethod ov m (do return (← importBound o env).getD true))
      callWith pos f first (backTo pos (starEach [] env)) (backToKw pos (keywordEach [] env))) := by intro _; rfl) (hcalm : B.calm = true := by rfl) :
    OJ B G (.Call (.Attribute o m apos) [] [] pos) κ (mo.bind fun x => (F (arg x)).bind fun b => .ok (y b)) := by
  obtain ⟨⟨f, fd, j, hj, fo, hm, hb⟩, hcl⟩ := fn
  obtain ⟨to, o1, o2⟩ := ho
  refine ⟨fun W => fun σ H Q => to W σ H fun x H1 => ∃ a dx fs, x = .ref a ∧ H1 a = some (.ins C dx fs) ∧ fs.lookup m = none ∧ SpOf B.K B.mg 1 Gp F Gx κ y [x] H1 Q (WE W σ), fun X W ok tk => pe_methT0 (pl := _) (o1 X W ok tk) (by rw [ok.K]; exact hcl) (by rw [ok.K]; exact hm) (ok.fn fo) ((ok.room hcalm).mono hj) (by rw [ok.K]; exact hb)
    (fun σ => passAt tk σ) (ht X.env), fun W xok st H Hv Q v ve xw q => ?_⟩
  refine o2 W xok st H Hv _ v ve xw (Res.wp_mono (Res.wp_bind.mp q) fun x k1 u H0 Hv0 g0 ro => ?_)
  have ro' : (tIns C T flds).rep B.K Hv0 u x := ro
  obtain ⟨a, dx, fs, rfl, e2, e3, e4⟩ := ro
  refine ⟨a, dx, fs, rfl, g0.view.sub _ _ e2, e4 m (hm0 x), rfl, fun _ => 0, arg x, [], Hv0, xok, ?_, ?_, ?_⟩
  · rw [hs]
    refine ⟨[[]], [], ⟨⟨_, rfl, rfl, ro'⟩, trivial⟩, trivial, ?_⟩
    exact own_new g0.view
  · exact fun ex hx cls d H' s r => (xw.mono g0.same) ex hx cls d H' (fun b o e => s b o e List.not_mem_nil) r
  · refine Res.wp_mono (Res.wp_bind.mp k1) fun b k3 u σ' H' Hs' env => ?_
    obtain ⟨S, g2, r, fr⟩ := pure_back env
    exact k3 u H' Hs' S (g0.trans g2) r (fresh_back g0.same fr)

/-! making -/
theorem run_makeS {X : Cx} {CX : CXT} {k : Nat} {fi : Addr} {fd : FuncData} {ps : List Str} {sp : Sp} {E : St → XK} {pins : List (Addr × Obj)} {σ : St} {H : Hp} {s : Shared} {Q : VK} {us : List Value} {vs : List V} (M : Mk X.K C fi) (F : FnOk X.prog X.w X.K X.mg X.base CX k fi fd ps sp) (hr : Room (k + 1) X.A) (hb : Binds X.K fd ps [])
    (hx : PassesAt CX X σ (E σ)) (I : Inv X pins σ H s) (r : Vals vs us)
    (h : ∀ x dx, H x = none → H dx = none → dx ≠ x → sp (.ref x :: vs) (upd (upd H dx (.own x)) x (.ins C dx [])) (fun v H2 => v = .non ∧ Q (.ref x) H2) (E σ)) :
    wpAny (model X.prog X.w) X.A (call (.ref C) us) (EP X pins σ Q) X.xe s := by
  have hq := h (s.heap.objs.size + 1) s.heap.objs.size (I.hok.fresh (Nat.le_succ _)) (I.hok.fresh (Nat.le_refl _)) (Nat.ne_of_lt (Nat.lt_succ_self _))
  have I2 := Inv.made (C := C) I
  have r2 : Vals (V.ref (s.heap.objs.size + 1) :: vs) (Value.ref (s.heap.objs.size + 1) :: us) := .cons rfl r
  have hl : (Value.ref (s.heap.objs.size + 1) :: us).length = ps.length := by
    have e := r2.length
    rw [F.len _ _ _ _ hq] at e
    exact e.symm
  have bb := hb _ (Value.ref (s.heap.objs.size + 1) :: us) I2.kIn (by rw [List.append_nil]; exact hl)
  rw [List.append_nil] at bb
  refine wpAny_call (make_map (f := fi) I.kIn M.makes M.init (beq_iff_eq.mp M.fn) (codeAny_mono (F.run _ X.stack _ _ ⟨Value.ref (s.heap.objs.size + 1) :: us, []⟩ (Value.ref (s.heap.objs.size + 1) :: us) _ _ (E σ) (hr.make C us [])
    (I2.env0.make C us []) bb r2 hq) fun r s' hq' => ?_))
  cases r with
  | error e => exact hx pins _ _ e s' I2 hq'
  | ok fl =>
    cases fl with
    | ret u =>
      obtain ⟨v, H', I3, rv, ev, q3⟩ := I2.after hq'
      subst ev
      exact ⟨rv, ⟨V.ref (s.heap.objs.size + 1), H', I3, rfl, q3⟩⟩
    | next => exact False.elim hq'
    | brk => exact False.elim hq'
    | cont => exact False.elim hq'
structure MakeAt (B : Bd) (n : Str) (C : Addr) (ps : List Str) (sp : Sp) : Prop where
  ex : ∃ fi fd j, j + 1 ≤ B.k ∧ FnOk B.P B.w B.K B.mg B.base (L2.CX B.P B.w) j fi fd ps sp ∧ Mk B.K C fi ∧ Binds B.K fd ps []
  at_ : B.mg n = some (.ref C)
theorem pj_make {ps : List Str} {Gp : (Nat → Addr) → A → List Slot} {F : A → Res β} {Gr : (Nat → Addr) → β → List Slot} {k : Nat} {ma : Res γ} {out : γ → List FV} {arg : γ → A} {T1 : Type} {f1 : T1 → List (Str × FV)} {x1 : β → T1} {y : β → T}
    (fn : MakeAt B n C ps (SpOf B.K B.mg k Gp F (fun pn b => some ⟨kIns (fun q => q = pn 0) C T1 f1, x1 b⟩ :: Gr pn b) (kVal tNone) fun _ => ())) (hfl : ∀ b, f1 (x1 b) = flds (y b))
    (hg : B.sc.names.lookup n = some .globalImplicit) (ha : AJ B G (e :: es) ma out) (hs : ∀ pn c, Gp pn (arg c) = some ⟨kIns (fun q => q = pn 0) C Unit (fun _ => []), ()⟩ :: svs (out c)) (hk : ∀ c, (out c).length + 1 = k)
    (hdb : (n == ("__debug__" : Str)) = false := by decide) (he : ∀ env, starEach (e :: es) env = (false, eval e env) :: starEach es env := by intro _; rfl) (hpl : ∀ env, (backTo pos (starEach es env)).any (·.1) = false := by intro _; rfl) (hcalm : B.calm = true := by rfl) :
    PJ B G (.Call (.Name n p) (e :: es) [] pos) (tIns C T flds) (@Res.bind γ T ma fun c => @Res.bind β T (F (arg c)) fun b => @Res.ok T (y b)) := by
  obtain ⟨⟨fi, fd, j, hj, fo, hM, hb⟩, hat⟩ := fn
  obtain ⟨ta, a1, a2⟩ := ha
  refine ⟨fun W => fun σ H Q => ta W σ H fun vs H1 => ∀ x dx, H1 x = none → H1 dx = none → dx ≠ x → SpOf B.K B.mg k Gp F (fun pn b => some ⟨kIns (fun q => q = pn 0) C T1 f1, x1 b⟩ :: Gr pn b) (kVal tNone) (fun _ => ()) (.ref x :: vs) (upd (upd H1 dx (.own x)) x (.ins C dx [])) (fun v H2 => v = .non ∧ Q (.ref x) H2) (WE W σ), fun X W ok tk => ?_, fun W xok st H Hv Q v ve xw q => ?_⟩
  · refine ⟨fun pins s σ H Q I h => ?_⟩
    refine wpAny_Call_Name_kw (ld_glob I (by show X.env.scope.names.lookup n = _; rw [ok.sc]; exact hg) (by rw [ok.mg]; exact hat) ?_ hdb)
    refine PySem.W.callWith_K (h₀ := X.base) I.ok.mod.kin (by rw [ok.K]; exact hM.kp) (thn ((a1 X W ok tk).run pos pins s σ H _ I h) fun us s1 ⟨vs, H1, I1, r, q⟩ => ⟨I1.kIn, ?_⟩) (he X.env) (hpl X.env)
    exact run_makeS (by rw [ok.K]; exact hM) (ok.fn fo) ((ok.room hcalm).mono hj) (by rw [ok.K]; exact hb) (passAt tk σ) I1 r q
  · refine a2 W xok st H Hv _ v ve xw (Res.wp_mono (Res.wp_bind.mp q) fun c k2 vs H1 Hv1 g1 rs => ?_)
    intro x dx hx hdx hne
    have hxv : Hv1 x = none := by
      cases q : Hv1 x with
      | none => rfl
      | some u => rw [g1.view.sub _ _ q] at hx; cases hx
    have g2 := Grow.new (o := .own x) g1.view hdx
    have hx2 : (upd H1 dx (.own x)) x = none := by rw [upd_ne (Ne.symm hne)]; exact hx
    have hxv2 : (upd Hv1 dx (.own x)) x = none := by rw [upd_ne (Ne.symm hne)]; exact hxv
    have g3 := Grow.newOwn (o := .ins C dx []) g2.view hx2 trivial
    have g23 := g2.trans g3
    refine ⟨by rw [List.length_cons, rs.len2]; exact hk c, fun _ => x, arg c, [x], upd Hv1 dx (.own x), xok, ?_, ?_, ?_⟩
    · rw [hs]
      refine ⟨[x] :: List.replicate vs.length [], [], ⟨⟨_, rfl, x, dx, [], rfl, rfl, rfl, upd_same, Nat.le_refl _, fun f p h => (by cases h), fun f h => rfl⟩, sls_of (Els2.imp2 rs fun v p r => p.1.mono g2.up r)⟩, trivial, ?_⟩
      rw [List.flatten_cons, flatten_nils, List.append_nil]
      exact ⟨List.nodup_cons.mpr ⟨List.not_mem_nil, .nil⟩, fun a m => .inl m, fun a m => by rw [List.mem_singleton.mp m]; exact ⟨_, upd_same, trivial⟩, g3.view, fun a m => by rw [List.mem_singleton.mp m]; exact hxv2, Same.refl _, fun _ _ e => .inl e, fun _ _ e _ => e, fun _ _ e => ⟨_, e⟩⟩
    · exact fun ex hx' cls d H' s r => (xw.mono g1.same) ex hx' cls d H' (fun b o e => s b o (g23.same b o e) fun m => by rw [List.mem_singleton.mp m] at e; rw [hx] at e; cases e) r
    · refine Res.wp_mono (Res.wp_bind.mp k2) fun b k3 u σ' H' Hs' env => ?_
      obtain ⟨SG, SD, a, bb, o⟩ := env
      cases SG with
      | nil => cases σ' <;> exact a.elim
      | cons S SG =>
        cases σ' with
        | nil => exact a.elim
        | cons ov σ' =>
          obtain ⟨w, rfl, x0, dx0, fs, rfl, rfl, rfl, h3, h6, h4, h5⟩ := a.1
          cases SD with
          | nil => exact bb.elim
          | cons Sr SD =>
            obtain ⟨w, ew, hSr, hw⟩ := bb.1
            cases ew
            refine ⟨hw, ?_⟩
            have hno : ∀ a, a ∈ ([x0] : List Addr) → Hs' a = none := fun a m => o.sep a (by rw [List.flatten_cons, List.flatten_cons]; exact List.mem_append_right _ (List.mem_append_left _ m))
            -- the instance goes into the view
            have hup : Same Hs' (fun a => if a = x0 then H' a else Hs' a) := fun a u e => by
              by_cases q : a = x0
              · rw [q, hno x0 (List.mem_singleton.mpr rfl)] at e; cases e
              · simpa [q] using e
            refine k3 (.ref x0) H' (fun a => if a = x0 then H' a else Hs' a) ⟨fun a u e => ?_, ⟨fun a u e => ?_, fun a u e n => ?_⟩, (g1.up.trans g2.up).trans (o.grow.trans hup), fun a u e => ?_⟩ ⟨x0, dx0, fs, rfl, by simpa using h3, fun f p hp => ?_, fun f hp => ?_⟩
            · exact o.pres a u (g23.same a u (g1.same a u e)) fun m => by rw [List.mem_singleton.mp m] at e; rw [g1.same _ _ e] at hx; cases hx
            · by_cases q : a = x0
              · simpa [q] using e
              · exact o.view.sub a u (by simpa [q] using e)
            · by_cases q : a = x0
              · simpa [q] using e
              · simpa [q] using o.view.imm a u e n
            · by_cases q : a = x0
              · rw [q]; exact .inr (g1.same.free hx)
              · have e' : Hs' a = some u := by simpa [q] using e
                rcases o.fresh a u e' with z | z | z
                · by_cases qd : a = dx
                  · rw [qd]; exact .inr (g1.same.free hdx)
                  · have z' : (upd Hv1 dx (.own x0)) a = some u := z
                    rw [upd_ne qd] at z'
                    exact g1.fresh a u z'
                · have z' : (upd (upd H1 dx (.own x0)) x0 (.ins C dx [])) a = none := z
                  rw [upd_ne q] at z'
                  by_cases qd : a = dx
                  · rw [qd]; exact .inr (g1.same.free hdx)
                  · rw [upd_ne qd] at z'; exact .inr (g1.same.free z')
                · exact absurd (List.mem_singleton.mp z) q
            · rw [← hfl] at hp
              obtain ⟨u, k1, k2⟩ := h4 f p hp
              exact ⟨u, k1, p.1.mono hup k2⟩
            · rw [← hfl] at hp
              exact h5 f hp
/-! raise -/
structure ExAt (B : Bd) (n : Str) : Prop where
  ex : ∃ C, B.mg n = some (.ref C) ∧ PySem.W.excIn B.K C [.type "ValueError", .type "Exception", .type "BaseException", .type "object"] "ValueError.__new__" = true ∧ PySem.W.keepIn B.K (.ref C) = true ∧ PySem.W.subIn B.K (.ref C) (.type "BaseException") = some true ∧ PySem.W.typeIn B.K (.ref C) = some (.type "type")
theorem bj_raise {msg : Str} {j : Nat} {p2 : Pos} {fin : α → Fin} (hc : B.calm = true) (hx : ExAt B n) (hg : B.sc.names.lookup n = some .globalImplicit) (hdb : (n == ("__debug__" : Str)) = false := by decide) : BJ B G (.Raise (some (.Call (.Name n p) [.Constant (.str msg) j p2] [] pos)) none pos' :: rest) (.exc ⟨n, .no⟩) fin := fun X W ok tk => by
  obtain ⟨C, hm, x1, x2, x3, x4⟩ := hx.ex
  refine pss_imp (pss_cons (ps_raise (ok.calm.trans hc) tk (pmk_own PySem.F.excBase_ValueError (by rw [ok.K]; exact x1) (by rw [ok.mg]; exact hm) (by rw [ok.K]; exact x2) (raises_own (by rw [ok.K]; exact x3) (by rw [ok.K]; exact x4)) (by show X.env.scope.names.lookup n = _; rw [ok.sc]; exact hg) hdb)) pss_never) fun D σ H ⟨f, xok, Hs, xs, env, q⟩ => ?_
  exact xs _ q σ _ _ H env.pres ⟨C, hm, rfl, rfl⟩
end
end TM

set_option Elab.async false
set_option linter.all false
set_option maxRecDepth 100000
/-! TM17: small words for printed proofs. -/
namespace TM
open PySem L2
/-- a def of the text keeps a promise, at level j -/
def FnG (P : Program) (w : World) (K : Fg) (mg : Str → Option Value) (base : Heap) (j : Nat) (n : Str) (ps : List Str) (sp : Sp) : Prop := ∃ f fd, FnOk P w K mg base (L2.CX P w) j f fd ps sp ∧ mg n = some (.ref f) ∧ PySem.W.keepIn K (.ref f) = true ∧ Binds K fd ps []
theorem fnat {B : Bd} {n : Str} {ps : List Str} {sp : Sp} (j : Nat) (h : FnG B.P B.w B.K B.mg B.base j n ps sp) (hj : j ≤ B.k) : FnAt B n ps sp :=
  let ⟨f, fd, a, b, c, d⟩ := h
  ⟨f, fd, j, hj, a, b, c, d⟩
theorem Res.ok_bind {α β : Type} (x : α) (f : α → Res β) : (Res.ok x).bind f = f x := rfl
section
variable {B : Bd} {G : List Slot} {e : Expr} {κ : Kd} {pos p : Pos} {n : Str} {rest : List Stmt} {α β : Type}
/-- an own value is handed on -/
theorem ej_move (i : Nat) {x : κ.ty.T} (hi : B.N[i]? = some n) (hv : Vis B.sc n) (hg : G[i]? = some (some ⟨κ, x⟩)) (hd : (n == ("__debug__" : Str)) = false := by decide) (hcd : (n == ("__classdict__" : Str)) = false := by decide) :
    EJ B G (.Name n p) (.ok ()) (fun _ => G.set i none) κ fun _ => x := fun X W ok tk => by
  refine pe_imp (pe_var (i := i) (by rw [ok.N]; exact hi) (by rw [ok.sc]; exact hv) hd hcd) fun σ H Q ⟨f, xok, D, vs, Hs, xs, env, q⟩ => ?_
  obtain ⟨SG, SD, a, b, o⟩ := id env
  obtain ⟨S, ov, e1, e2, v, e3, r⟩ := a.get hg
  refine ⟨v, by rw [e2, e3], q v H Hs ⟨SG.set i [], S :: SD, ?_, ⟨⟨v, rfl, r⟩, b⟩, ?_⟩⟩
  · have hset : σ.set i ov = σ := by
      obtain ⟨hl, e⟩ := List.getElem?_eq_some_iff.mp e2
      rw [← e]; exact List.set_getElem_self hl
    have := Els.set (i := i) a (show SlotOk B.K H Hs [] ov none from rfl)
    rw [hset] at this
    exact this
  · have hc : ∀ c, List.count c ((S :: SD).flatten ++ (SG.set i []).flatten) = List.count c (SD.flatten ++ SG.flatten) := fun c => by
      rw [List.flatten_cons, List.count_append, List.count_append, List.count_append]
      have := count_set (a := c) (S' := []) e1
      simp only [List.count_nil] at this
      omega
    exact o.less (nodup_count.mpr fun c => by rw [hc]; exact nodup_count.mp o.nodup c) fun c m => mem_count.mpr (by rw [← hc]; exact mem_count.mp m)
/-- something new is let go -/
theorem ej_let {m : Res β} {G' : β → List Slot} {x : β → κ.ty.T} (h : EJ B G e m G' κ x) : EJ B G e m G' (kVal κ.ty) x := fun X W ok tk => by
  refine pe_imp (h X W ok tk) fun σ H Q ⟨f, xok, D, vs, Hs, xs, env, q⟩ => ⟨f, xok, D, vs, Hs, xs, env, Res.wp_mono q fun b k v H' Hs' env' => ?_⟩
  obtain ⟨SG, SD, a, b, o⟩ := env'
  cases SD with
  | nil => exact b.elim
  | cons S SD =>
    obtain ⟨w, ew, r⟩ := b.1
    cases ew
    rw [List.flatten_cons, List.append_assoc] at o
    have o2 := o.let
    have e0 : Same Hs' (fun a => if a ∈ S then H' a else Hs' a) := fun a u e => by
      have q : a ∉ S := fun q => by rw [o.sep a (List.mem_append_left _ q)] at e; cases e
      simpa [q] using e
    exact k v H' _ ⟨SG, [] :: SD, Sls.keep a (fun _ _ _ h => h) e0, ⟨⟨v, rfl, rfl, κ.thaw r e0 fun a ha o ho => by simpa [ha] using ho⟩, Sls.keep b.2 (fun _ _ _ h => h) e0⟩, by rw [List.flatten_cons, List.nil_append]; exact o2⟩
theorem EJ.cast {m m' : Res β} {G' : β → List Slot} {x : β → κ.ty.T} (h : EJ B G e m G' κ x) (e' : m = m') : EJ B G e m' G' κ x := e' ▸ h
theorem ETJ.cast {m m' : Res β} {G' : β → List Slot} {x : β → Bool} (h : ETJ B G e m G' x) (e' : m = m') : ETJ B G e m' G' x := e' ▸ h
end
end TM

set_option Elab.async false
set_option linter.all false
set_option maxRecDepth 100000
/-! TM18: operators whose operands change things. -/
namespace TM
open PySem L2
theorem Env.flat {K : Fg} {f : Fr} {G D : List Slot} {σ : St} {vs : List V} {H Hs : Hp} {τ : Ty} {x : τ.T} {v : V} (hf : τ.Flat) (h : Env K f G (some ⟨kVal τ, x⟩ :: D) σ (v :: vs) H Hs) : ∀ Hx, τ.rep K Hx v x := fun Hx => by
  obtain ⟨_, SD, _, bb, _⟩ := h
  cases SD with
  | nil => exact bb.elim
  | cons S SD =>
    obtain ⟨w, ew, _, r⟩ := bb.1
    cases ew
    exact hf r
theorem Env.pushFlat {K : Fg} {f : Fr} {G D : List Slot} {σ : St} {vs : List V} {H Hs : Hp} {τ : Ty} {x : τ.T} {v : V} (h : Env K f G D σ vs H Hs) (r : τ.rep K Hs v x) : Env K f G (some ⟨kVal τ, x⟩ :: D) σ (v :: vs) H Hs :=
  h.push (S := []) (κ := kVal τ) (Grow.refl h.view) ⟨rfl, r⟩ fresh_nil
/-- by values, no heap: for flat things -/
def Op2F (K : Fg) (r : R2) (ρ σ τ : Ty) (g : ρ.T → σ.T → Res τ.T) : Prop := ∀ (H : Hp) (v w : V) (x : ρ.T) (y : σ.T) (Q : VK), ρ.rep K H v x → σ.rep K H w y → ∀ z, g x y = .ok z → (∀ u, (∀ H, τ.rep K H u z) → Q u H) → r v w H Q
theorem f2_I0 {K : Fg} {g : Int → Int → Int} : Op2F K (rI0 fun i j => .int (g i j)) tInt tInt tInt (fun x y => .ok (g x y)) := fun H v w x y Q r1 r2 z e q => by
  cases e
  exact ⟨x, y, r1, r2, q _ fun _ => rfl⟩
theorem f2_B0 {K : Fg} {g : Int → Int → Bool} : Op2F K (rI0 fun i j => .bl (g i j)) tInt tInt tBool (fun x y => .ok (g x y)) := fun H v w x y Q r1 r2 z e q => by
  cases e
  exact ⟨x, y, r1, r2, q _ fun _ => rfl⟩
theorem f2_I {K : Fg} (C : Int → Int → Prop) [∀ x y, Decidable (C x y)] (g : Int → Int → Int) : Op2F K (rI C fun i j => .int (g i j)) tInt tInt tInt (fun (x y : Int) => gate (C x y) (g x y)) := fun H v w (x : Int) (y : Int) Q r1 r2 (z : Int) e q => by
  obtain ⟨c, h⟩ := gate_inv (show gate (C x y) (g x y) = .ok z from e)
  subst h
  exact ⟨x, y, r1, r2, c, q _ fun _ => rfl⟩
theorem f2_eq {K : Fg} {k : Bool} {τ : Ty} [DecidableEq τ.T] (s : Sca τ) : Op2F K (rEqK k) τ τ tBool (fun x y => .ok (eqb k x y)) := fun H v w x y Q r1 r2 z e q => by
  cases e
  have e1 := s.rep r1
  have e2 := s.rep r2
  subst e1 e2
  refine ⟨s.sc x y, ?_⟩
  have : decide (s.toV x = s.toV y) = decide (x = y) := by
    by_cases h : x = y
    · subst h; simp
    · rw [decide_eq_false h, decide_eq_false fun z => h (s.inj x y z)]
  rw [this]
  exact q _ fun _ => rfl
/-- the operators on ints: the rule, the mirror's function -/
inductive IOp : Operator → (Int → Int → Res Int) → Prop
  | add : IOp .Add fun x y => .ok (x + y)
  | sub : IOp .Sub fun x y => .ok (x - y)
  | mul : IOp .Mult mulR
  | div : IOp .FloorDiv divR
  | mod : IOp .Mod modR
theorem IOp.rule {op : Operator} {g : Int → Int → Res Int} (h : IOp op g) {K : Fg} : ∃ r, (∀ X, OpR X (binaryOp op) r) ∧ Op2F K r tInt tInt tInt g ∧ ∀ x y ex, g x y ≠ .exc ex := by
  cases h
  · exact ⟨_, fun _ => op_add, f2_I0, fun _ _ _ h => nomatch h⟩
  · exact ⟨_, fun _ => op_sub, f2_I0, fun _ _ _ h => nomatch h⟩
  · exact ⟨_, fun _ => op_mul, f2_I CMul fun i j => i * j, mulR_exc⟩
  · exact ⟨_, fun _ => op_fdiv, f2_I CDiv fun i j => i / j, divR_exc⟩
  · exact ⟨_, fun _ => op_mod, f2_I (fun _ j => 0 < j) fun i j => i % j, modR_exc⟩
section
variable {B : Bd} {G : List Slot} {e a b : Expr} {τ σ ρ : Ty} {κ : Kd} {pos p : Pos} {n : Str} {β γ : Type}
theorem two_e {m1 : Res β} {G1 : β → List Slot} {x : β → ρ.T} {m2 : β → Res γ} {G2 : β → γ → List Slot} {y : β → γ → σ.T} {X : Cx} {W : WX} (hρ : ρ.Flat) (hσ : σ.Flat)
    (ha : PE X a (fun σ0 H Q => ∃ f xok D vs Hs, XS B f xok W ∧ Env B.K f G D σ0 vs H Hs ∧ m1.wp xok fun b => ∀ v H' Hs', Env B.K f (G1 b) (some ⟨kVal ρ, x b⟩ :: D) σ0 (v :: vs) H' Hs' → Q v H'))
    (hb : ∀ c, PE X b (fun σ0 H Q => ∃ f xok D vs Hs, XS B f xok W ∧ Env B.K f (G1 c) D σ0 vs H Hs ∧ (m2 c).wp xok fun b => ∀ v H' Hs', Env B.K f (G2 c b) (some ⟨kVal σ, y c b⟩ :: D) σ0 (v :: vs) H' Hs' → Q v H')) :
    ∃ ta tb, PE X a ta ∧ PE X b tb ∧ ∀ f xok D vs Hs σ0 H (R : V → V → Hp → Prop), XS B f xok W → Env B.K f G D σ0 vs H Hs → (m1.wp xok fun c => (m2 c).wp xok fun d => ∀ v w H' Hs', Env B.K f (G2 c d) D σ0 vs H' Hs' → ρ.rep B.K H' v (x c) → σ.rep B.K H' w (y c d) → R v w H') →
      ta σ0 H fun v H1 => tb σ0 H1 fun w H2 => R v w H2 := by
  refine ⟨_, _, ha, pe_ex hb, fun f xok D vs Hs σ0 H R xs env q => ⟨f, xok, D, vs, Hs, xs, env, Res.wp_mono q fun c k v H1 Hs1 env1 => ?_⟩⟩
  have r1 := env1.flat hρ
  refine ⟨c, f, xok, D, vs, Hs1, xs, env1.pop, Res.wp_mono k fun d k2 w H2 Hs2 env2 => ?_⟩
  exact k2 v w H2 Hs2 env2.pop (r1 H2) (env2.flat hσ H2)
theorem ej_op {op : Operator} {g : Int → Int → Res Int} (ho : IOp op g) {m1 : Res β} {G1 : β → List Slot} {x : β → Int} {m2 : β → Res γ} {G2 : β → γ → List Slot} {y : β → γ → Int} (ha : EJ B G a m1 G1 (kVal tInt) x) (hb : ∀ c, EJ B (G1 c) b (m2 c) (G2 c) (kVal tInt) (y c)) :
    EJ B G (.BinOp a op b pos) (m1.bind fun c => (m2 c).bind fun d => (g (x c) (y c d)).bind fun z => .ok (c, d, z)) (fun r => G2 r.1 r.2.1) (kVal tInt) fun r => r.2.2 := fun X W ok tk => by
  obtain ⟨r, ho1, ho2, ho3⟩ := ho.rule (K := B.K)
  obtain ⟨ta, tb, h1, h2, h3⟩ := two_e flat_int flat_int (ha X W ok tk) fun c => hb c X W ok tk
  refine pe_imp (pe_op (ho1 X) h1 h2) fun σ0 H Q ⟨f, xok, D, vs, Hs, xs, env, q⟩ => ?_
  refine h3 f xok D vs Hs σ0 H _ xs env (Res.wp_mono (Res.wp_bind.mp q) fun c k => Res.wp_mono (Res.wp_bind.mp k) fun d k2 v w H' Hs' env' r1 r2 => ?_)
  cases e : g (x c) (y c d) with
  | ok z => rw [e] at k2; exact ho2 H' v w _ _ _ r1 r2 z e fun u hu => k2 u H' Hs' (env'.pushFlat (hu _))
  | exc ex => exact (ho3 _ _ _ e).elim
  | bad => rw [e] at k2; exact k2.elim
theorem etj_icmp {op : CmpOp} {g : Int → Int → Bool} (ho : ICmp op g) {m1 : Res β} {G1 : β → List Slot} {x : β → Int} {m2 : β → Res γ} {G2 : β → γ → List Slot} {y : β → γ → Int} (ha : EJ B G a m1 G1 (kVal tInt) x) (hb : ∀ c, EJ B (G1 c) b (m2 c) (G2 c) (kVal tInt) (y c)) :
    ETJ B G (.Compare a [op] [b] pos) (m1.bind fun c => (m2 c).bind fun d => .ok (c, d)) (fun r => G2 r.1 r.2) fun r => g (x r.1) (y r.1 r.2) := fun X W ok tk => by
  obtain ⟨ta, tb, h1, h2, h3⟩ := two_e flat_int flat_int (ha X W ok tk) fun c => hb c X W ok tk
  refine pt_imp (pt_cmpR (ho.rule X) h1 h2 ho.nb) fun σ0 H Q ⟨f, xok, D, vs, Hs, xs, env, q⟩ => ?_
  refine h3 f xok D vs Hs σ0 H _ xs env (Res.wp_mono (Res.wp_bind.mp q) fun c k => Res.wp_mono (Res.wp_bind.mp k) fun d k2 v w H' Hs' env' r1 r2 => ?_)
  exact ⟨_, _, r1, r2, _, rfl, k2 H' Hs' env'⟩
theorem etj_eqs {op : CmpOp} {k : Bool} (ho : EqOp op k) {m1 : Res β} {G1 : β → List Slot} {x : β → Int} {m2 : β → Res γ} {G2 : β → γ → List Slot} {y : β → γ → Int} (ha : EJ B G a m1 G1 (kVal tInt) x) (hb : ∀ c, EJ B (G1 c) b (m2 c) (G2 c) (kVal tInt) (y c)) :
    ETJ B G (.Compare a [op] [b] pos) (m1.bind fun c => (m2 c).bind fun d => .ok (c, d)) (fun r => G2 r.1 r.2) fun r => eqb k (x r.1) (y r.1 r.2) := fun X W ok tk => by
  obtain ⟨ta, tb, h1, h2, h3⟩ := two_e flat_int flat_int (ha X W ok tk) fun c => hb c X W ok tk
  refine pt_imp (pt_cmpR (ho.rule X) h1 h2 ho.nb) fun σ0 H Q ⟨f, xok, D, vs, Hs, xs, env, q⟩ => ?_
  refine h3 f xok D vs Hs σ0 H _ xs env (Res.wp_mono (Res.wp_bind.mp q) fun c k1 => Res.wp_mono (Res.wp_bind.mp k1) fun d k2 v w H' Hs' env' r1 r2 => ?_)
  exact f2_eq (K := B.K) (k := k) scaInt H' v w _ _ _ r1 r2 _ rfl fun u hu => ⟨_, hu H', k2 H' Hs' env'⟩
theorem ej_int1 {m : Res β} {G1 : β → List Slot} {x : β → Int} (hg : B.sc.names.lookup ("int" : Str) = some .globalImplicit) (hm : B.mg "int" = none) (ha : EJ B G e m G1 (kVal tInt) x) (hs : ∀ env, starEach [e] env = (false, eval e env) :: starEach [] env := by intro _; rfl) :
    EJ B G (.Call (.Name "int" p) [e] [] pos) m G1 (kVal tInt) x := fun X W ok tk => by
  refine pe_imp (pe_callTy call_int1 (by show X.env.scope.names.lookup _ = _; rw [ok.sc]; exact hg) (by rw [ok.mg]; exact hm) PyProof.Rows.boot_int (pa_cons (ha X W ok tk) pa_nil (hs X.env)) (by decide) (by decide) (hs X.env) rfl) fun σ0 H Q ⟨f, xok, D, vs, Hs, xs, env, q⟩ => ?_
  refine ⟨f, xok, D, vs, Hs, xs, env, Res.wp_mono q fun b k v H' Hs' env' => .inl ⟨x b, ?_, k v H' Hs' env' |> fun h => ?_⟩⟩
  · have := env'.flat flat_int H'
    rw [show v = .int (x b) from this]
  · have := env'.flat flat_int H'
    rw [show v = .int (x b) from this] at h
    exact h
/-! tests joined -/
theorem etj_not {m : Res β} {G1 : β → List Slot} {c : β → Bool} (h : ETJ B G a m G1 c) : ETJ B G (.UnaryOp .Not a pos) m G1 (fun b => !c b) := fun X W ok tk => pt_imp (pt_not (h X W ok tk)) fun σ0 H Q ⟨f, xok, D, vs, Hs, xs, env, q⟩ => ⟨f, xok, D, vs, Hs, xs, env, q⟩
end
end TM

set_option Elab.async false
set_option linter.all false
set_option maxRecDepth 100000
/-! TM19: names; tests that are settled. -/
namespace TM
open PySem L2
/-- no name of the def is a name of the language's own -/
def nmOk (N : List Str) : Bool := N.all fun n => !(n == ("__debug__" : Str)) && !(n == ("__classdict__" : Str))
theorem nmOk_at {N : List Str} {i : Nat} {n : Str} (h : nmOk N = true) (hi : N[i]? = some n) : (n == ("__debug__" : Str)) = false ∧ (n == ("__classdict__" : Str)) = false := by
  unfold nmOk at h
  have := List.all_eq_true.mp h n (List.mem_of_getElem? hi)
  rw [Bool.and_eq_true] at this
  exact ⟨by simpa using this.1, by simpa using this.2⟩
section
variable {B : Bd} {G : List Slot} {e a b c : Expr} {τ σ ρ : Ty} {pos p : Pos} {n : Str} {β γ α ζ : Type} {rest sa sb : List Stmt} {fin : α → Fin}
theorem pj_v (κ : Kd) (i : Nat) {x : κ.ty.T} (ho : nmOk B.N = true) (hN : B.N[i]? = some n) (hv : Vis B.sc n) (hg : G[i]? = some (some ⟨κ, x⟩)) : PJ B G (.Name n pos) κ.ty (.ok x) :=
  pj_var i hg hN hv (nmOk_at ho hN).1 (nmOk_at ho hN).2
theorem pj_vv (τ : Ty) (i : Nat) (x : τ.T) (ho : nmOk B.N = true) (hN : B.N[i]? = some n) (hv : Vis B.sc n) (hg : G[i]? = some (sv τ x)) : PJ B G (.Name n pos) τ (.ok x) :=
  pj_var (p := ⟨kVal τ, x⟩) i hg hN hv (nmOk_at ho hN).1 (nmOk_at ho hN).2
theorem pj_vl {pin : Addr → Prop} (κ : Kd) (i : Nat) (x : List κ.ty.T) (ho : nmOk B.N = true) (hN : B.N[i]? = some n) (hv : Vis B.sc n) (hg : G[i]? = some (some ⟨kLP pin κ, x⟩)) : PJ B G (.Name n pos) (tList κ.ty) (.ok x) :=
  pj_var (p := ⟨kLP pin κ, x⟩) i hg hN hv (nmOk_at ho hN).1 (nmOk_at ho hN).2
/-- return e: the slots G2 are what is kept -/
theorem bj_rt {κ : Kd} {m1 : Res β} {G1 : β → List Slot} (G2 : β → List Slot) {v : β → κ.ty.T} (out : β → α) (he : EJ B G e m1 G1 κ v) (hf : ∀ b, fin (out b) = .rt (G2 b) κ (v b)) (w : ∀ b, Wk (G1 b) (G2 b)) :
    BJ B G (.Return (some e) pos :: rest) (m1.bind fun b => .ok (out b)) fin := bj_ret he w hf
/-- a test whose answer the types tell -/
theorem bj_ifY {m1 : Res β} {G1 : β → List Slot} {ma : β → Res α} (hc : ETJ B G c m1 G1 (fun _ => true)) (he : ∀ a, (fin a).ends = true) (ha : ∀ s, BJ B (G1 s) sa (ma s) fin) : BJ B G (.If c sa [] pos :: rest) (m1.bind ma) fin := fun X W ok tk => by
  refine pss_imp (pss_cons (ps_if (hc X W ok.toCxOk tk) (pss_ex fun s => ha s X W ok tk) pss_nil) pss_never) fun D σ H ⟨f, xok, Hs, xs, env, q⟩ => ?_
  refine ⟨f, xok, [], [], Hs, xs, env, Res.wp_mono (Res.wp_bind.mp q) fun s k H' Hs' env' => ?_⟩
  exact ⟨s, f, xok, Hs', xs, env', Res.wp_mono k fun a k2 => FinOk.nx_any k2 (he a)⟩
theorem bj_ifN {m1 : Res β} {G1 : β → List Slot} {mr : β → Res α} (hc : ETJ B G c m1 G1 (fun _ => false)) (hr : ∀ s, BJ B (G1 s) rest (mr s) fin) : BJ B G (.If c sa [] pos :: rest) (m1.bind mr) fin := fun X W ok tk => by
  refine pss_imp (pss_cons (ps_if (hc X W ok.toCxOk tk) pss_never pss_nil) (pss_ex fun s => hr s X W ok tk)) fun D σ H ⟨f, xok, Hs, xs, env, q⟩ => ?_
  refine ⟨f, xok, [], [], Hs, xs, env, Res.wp_mono (Res.wp_bind.mp q) fun s k H' Hs' env' => ?_⟩
  exact ⟨s, f, xok, Hs', xs, env', k⟩
end
end TM

set_option Elab.async false
set_option linter.all false
set_option maxRecDepth 100000
set_option maxHeartbeats 4000000
/-! TL2: enumerate of a tuple (an addition to the library's rules). -/
namespace EnumT
open PySem
open Sem (wp)
open AutoSeq1 (wpAny_loadPart')
theorem meets_enumerate_newT (l : Addr) (o : Obj) (items : Array Value) :
    Meets (Builtin.«enumerate.__new__» ⟨[.type "enumerate", .ref l], []⟩) (fun _ R s => (s.heap.get? l = some o ∧ o.cls = .type "tuple" ∧ ∃ n, o.data = .seq items n) ∧
      R (.ok (.ret (.ref (s.heap.push { cls := .type "tuple_iterator", data := .fields #[.ref l, .int 0 0] }).objs.size)))
        { s with heap := (s.heap.push { cls := .type "tuple_iterator", data := .fields #[.ref l, .int 0 0] }).push { cls := .type "enumerate", data := .fields #[.none, .bool false, .ref s.heap.objs.size, rawInt 0, .none, .none] } }) :=
  .of_wp fun prog w A R s h => by
    obtain ⟨hp, g, d, tk, os⟩ := s; obtain ⟨⟨hl, hc, n, hd⟩, h⟩ := h
    have hsub := sub_enumerate
    have hL : Heap.IsTuple (Shared.heap ⟨hp, g, d, tk, os⟩) l items := ⟨o, hl, hc, n, hd⟩
    wp_walk using wpAny_loadPart' hl
    refine wpAny_stack_any fun st => wpAny_pure ?_
    split
    · rename_i c _ _ _ _ _
      cases (c == Value.type "enumerate")
      · wp_walk using wpAny_loadPart' hl, wpAny_pyIter_tuple hL
        exact ⟨_, rfl, h⟩
      · wp_walk using wpAny_loadPart' hl, wpAny_pyIter_tuple hL
        exact ⟨_, rfl, h⟩
    · wp_walk using wpAny_loadPart' hl, wpAny_pyIter_tuple hL
      exact ⟨_, rfl, h⟩
section
variable {prog : Program} {w : World} {A : Around} {E : Value → Shared → Prop} {s : Shared}
theorem call_enumerate_tuple {l : Addr} {items : Array Value} {Q : Value → Shared → Prop} (hL : s.heap.IsTuple l items)
    (h : ∀ h', IsEnum h' (s.heap.objs.size + 1) s.heap.objs.size 0 .none → h'.IsTupleIter s.heap.objs.size l 0 → h'.objs.size = s.heap.objs.size + 2 →
      (∀ b o, s.heap.get? b = some o → h'.get? b = some o) → Q (.ref (s.heap.objs.size + 1)) { s with heap := h' }) :
    wpAny (model prog w) A (call (.type "enumerate") [.ref l]) Q E s := by
  obtain ⟨o, hl, hc, n, hd⟩ := hL
  refine callType_new F.called_enumerate (by decide) (F.typeCall_enumerate_1 _) (F.newCall_enumerate_1 _) (fun obj => F.args_object_init_2 obj _) F.entry_enumerate_new
    (meets_enumerate_newT l o items) ⟨⟨hl, hc, n, hd⟩, ?_⟩
  have hz : (s.heap.push { cls := .type "tuple_iterator", data := .fields #[.ref l, .int 0 0] }).objs.size = s.heap.objs.size + 1 := Heap.size_push ..
  show _ ∧ _
  rw [hz]
  have he : IsEnum ((s.heap.push { cls := .type "tuple_iterator", data := .fields #[.ref l, .int 0 0] }).push
      { cls := .type "enumerate", data := .fields #[.none, .bool false, .ref s.heap.objs.size, rawInt 0, .none, .none] }) (s.heap.objs.size + 1) s.heap.objs.size 0 .none := by
    have := Heap.get?_push_size (s.heap.push { cls := .type "tuple_iterator", data := .fields #[.ref l, .int 0 0] })
      (o := { cls := .type "enumerate", data := .fields #[.none, .bool false, .ref s.heap.objs.size, rawInt 0, .none, .none] }) rfl
    rw [hz] at this; exact this
  refine ⟨⟨_, he, rfl⟩, h _ he ⟨_, Heap.get?_push_of_some _ (Heap.get?_push_size _ rfl), rfl, rfl⟩ (by rw [Heap.size_push, hz]) fun b o x => Heap.get?_push_of_some _ (Heap.get?_push_of_some _ x)⟩
theorem nextOf_tuple_item {it t : Addr} {i : Nat} {items} {x : Value} {Q : Value → Shared → Prop} (hit : s.heap.IsTupleIter it t i)
    (ht : s.heap.IsTuple t items) (hx : items[i]? = some x)
    (hQ : ∀ h', h'.IsTupleIter it t (i + 1) → Heap.SameBut it s.heap h' → Q x { s with heap := h' }) :
    wpAny (model prog w) A (Builtin.SmallTypes.nextOf (.ref it)) Q E s := by
  obtain ⟨o, ho, hc, hd⟩ := id hit
  obtain ⟨ol, hol, _, nl, hdl⟩ := ht
  unfold Builtin.SmallTypes.nextOf
  refine wpAny_bind (wpAny_callSpecial?_slot (name := Str.ofString "__next__") hit.typeIs F.slot_tuple_iterator_next
    (wpAny_call_entry F.slot_tuple_iterator_next hit.typeIs F.entry_tuple_iterator_next ?_ (F.args_tuple_iterator_next_1 _)))
  show wpAny _ _ (field (.ref it) 0 >>= _) _ _ s
  refine wpAny_bind (wpAny_field ho hd (x := .ref t) rfl ?_)
  show wpAny _ _ (if (Value.ref t == Value.none) = true then _ else _) _ _ s
  rw [if_neg (show ¬ ((Value.ref t == Value.none) = true) from Bool.false_ne_true)]
  show wpAny _ _ (field (.ref it) 1 >>= _) _ _ s
  refine wpAny_bind (wpAny_field ho hd (x := .int i 0) rfl ?_)
  show wpAny _ _ (seqItems? (.ref t) >>= _) _ _ s
  refine wpAny_bind (wpAny_seqItems hol hdl ?_)
  simp only [Int.toNat_natCast, hx]
  refine wpAny_bind (wpAny_setField ho hd (by simp) (wpAny_pure ⟨x, rfl, wpAny_pure (hQ _ ?_ (Heap.SameBut.update ..))⟩))
  exact ⟨_, Heap.get?_update_self _ ho (Obj.isFreed_of_fields (Obj.data_mapFields hd _)), (Obj.cls_mapFields ..).trans hc, by
    rw [Obj.data_mapFields hd]; simp [rawInt]⟩
theorem nextOf_tuple_end {it t : Addr} {i : Nat} {items} {Q : Value → Shared → Prop} (hh : A.handled = none)
    (hit : s.heap.IsTupleIter it t i) (ht : s.heap.IsTuple t items) (hx : items[i]? = none)
    (hE : ∀ h' e, Heap.ExtBut it s.heap h' → (∃ o, h'.get? e = some o ∧ o.cls = .type "StopIteration") → E (.ref e) { s with heap := h' }) :
    wpAny (model prog w) A (Builtin.SmallTypes.nextOf (.ref it)) Q E s := by
  obtain ⟨o, ho, hc, hd⟩ := id hit
  obtain ⟨ol, hol, _, nl, hdl⟩ := ht
  unfold Builtin.SmallTypes.nextOf
  refine wpAny_bind (wpAny_callSpecial?_slot (name := Str.ofString "__next__") hit.typeIs F.slot_tuple_iterator_next
    (wpAny_call_entry F.slot_tuple_iterator_next hit.typeIs F.entry_tuple_iterator_next ?_ (F.args_tuple_iterator_next_1 _)))
  show wpAny _ _ (field (.ref it) 0 >>= _) _ _ s
  refine wpAny_bind (wpAny_field ho hd (x := .ref t) rfl ?_)
  show wpAny _ _ (if (Value.ref t == Value.none) = true then _ else _) _ _ s
  rw [if_neg (show ¬ ((Value.ref t == Value.none) = true) from Bool.false_ne_true)]
  show wpAny _ _ (field (.ref it) 1 >>= _) _ _ s
  refine wpAny_bind (wpAny_field ho hd (x := .int i 0) rfl ?_)
  show wpAny _ _ (seqItems? (.ref t) >>= _) _ _ s
  refine wpAny_bind (wpAny_seqItems hol hdl ?_)
  simp only [Int.toNat_natCast, hx]
  refine wpAny_bind (wpAny_rule (wpAny_bind (wpAny_setField ho hd (by simp) ?_)))
  show wpAny _ _ (newExc (.type "StopIteration") [] >>= _) _ _ _
  refine wpAny_bind ?_
  simp only [newExc, newTuple]
  refine wpAny_bind (wpAny_newObj_type ?_ (by size_fits))
  refine wpAny_bind (m := firstArgMember _ _) (wpAny_of_eq (a := Value.none) (by first | rfl | (simp only [firstArgMember]; rfl)) ?_)
  refine wpAny_newObj_type ?_ (by size_fits)
  simp only [raiseNew]
  refine wpAny_bind (wpAny_handled ?_)
  first | rw [show A.in1.handled = none from hh] | rw [hh]
  refine wpAny_bind (wpAny_pure (wpAny_throw ?_))
  exact hE _ _ (((Heap.SameBut.update ..).extBut.push _).push _) ⟨_, Heap.get?_push_size _ rfl, rfl⟩
theorem draws_tuple {it t : Addr} {items : Array Value} (hh : A.handled = none) (hne : t ≠ it) : Draws prog w A it [it, t] items.size (fun i x => items[i]? = some x) (fun i h => h.IsTupleIter it t i ∧ h.IsTuple t items) where
  live := fun i h ⟨⟨o, ho, _⟩, _⟩ => ⟨o, ho⟩
  frame := fun i h h' ⟨⟨o, ho, r⟩, ⟨o2, ho2, r2⟩⟩ k => ⟨⟨o, k it (by simp) o ho, r⟩, ⟨o2, k t (by simp) o2 ho2, r2⟩⟩
  item := fun i s Q E hi ⟨hit, ht⟩ hQ => nextOf_tuple_item hit ht (Array.getElem?_eq_getElem hi) fun h' hit' sb => hQ _ h' s.toks (Array.getElem?_eq_getElem hi) ⟨hit', ht.extBut sb.extBut hne⟩ sb
  done := fun s Q E ⟨hit, ht⟩ hE => nextOf_tuple_end hh hit ht (by simp) hE
end
end EnumT

namespace L2
open PySem PySem.Spec PyProof.Rows
/-- the tuple at a, each item in a new pair -/
def IteT (K : PySem.W.Frag) (a : Addr) : It :=
  ⟨fun i H => ∃ (xs : List V) (x : V), SqT K H a xs ∧ xs[i]? = some x, fun i H v H' => ∃ T x, v = .ref T ∧ H T = none ∧ H' = upd H T (.tup [.int (i : Nat), x]) ∧ ∀ xs, SqT K H a xs → xs[i]? = some x, fun i H => ∃ xs : List V, SqT K H a xs ∧ xs.length ≤ i⟩
theorem turn_enumT {P : Program} {w : World} {K : PySem.W.Frag} {elts : List Expr} {kk : Nat} {tpos : Pos} (a e it : Addr) :
    Turn P w K (.Tuple elts kk tpos) (IteT K a) [e, it] e (fun i h => (∃ old, IsEnum h e it ((i : Nat) : Int) old) ∧ h.IsTupleIter it a i ∧ e ≠ it) where
  mem := by simp
  obj := fun i h st b hb => by
    obtain ⟨⟨old, he⟩, ⟨o, ho, hc, hd⟩, _⟩ := st
    have e' : b = e ∨ b = it := by simpa using hb
    rcases e' with z | z
    · rw [z]; exact ⟨_, he, fun v q => nomatch q⟩
    · rw [z]; exact ⟨o, ho, fun v q => by rw [hd] at q; cases q⟩
  keep := fun i h h' st k => let ⟨⟨old, he⟩, hi, hne⟩ := st; ⟨⟨old, k e (by simp) _ he⟩, let ⟨o, ho, r⟩ := hi; ⟨o, k it (by simp) o ho, r⟩, hne⟩
  item := by
    intro X hP hw hK hc i pins s σ H E I hf st hg
    subst hP hw hK
    obtain ⟨⟨old, he⟩, hit, hne⟩ := st
    obtain ⟨xs, x, hq, hx⟩ := hg
    obtain ⟨its, rv, p, hz⟩ := I.tuple hq
    obtain ⟨u, hu, ru⟩ := rv.get hx
    have hel : e < s.heap.objs.size := Heap.lt_size he
    have hil : it < s.heap.objs.size := by obtain ⟨_, q, _⟩ := hit; exact Heap.lt_size q
    have p' : s.heap.IsTuple a its.toArray := p
    have hea : e ≠ a := fun q => by
      obtain ⟨o, ho, hc', _⟩ := p'
      rw [← q, he] at ho
      cases ho
      exact absurd (Value.type.inj hc') (by decide)
    have hai : a ≠ it := fun q => by
      obtain ⟨o, ho, hc', _⟩ := p'
      obtain ⟨o2, ho2, hc2, _⟩ := hit
      rw [q, ho2] at ho
      cases ho
      rw [hc2] at hc'
      exact absurd (Value.type.inj hc') (by decide)
    have hlt : i < its.toArray.size := by
      have := (List.getElem?_eq_some_iff.mp hu).1
      simpa using this
    refine wpAny_pyNext_enum_itemD (n := its.toArray.size) (EnumT.draws_tuple (A := X.A.in1) (I.ok.hd hc) hai) he ⟨hit, p'⟩ hlt hne (by simp [hne, hea]) fun u2 h' tk hP ho hit' hT hsz hk => ?_
    have hu2 : u2 = u := by
      have e1 : its.toArray[i]? = some u := by simpa using hu
      exact Option.some.inj (hP.symm.trans e1)
    subst hu2
    refine ⟨_, rfl, wpAny_letOwnedTupleGo_enum (s := { s with heap := h', toks := tk + 1 }) ho fun h'' he' sb => ?_⟩
    have hT2 : h''.get? s.heap.objs.size = some { cls := .type "tuple", data := .seq #[.int i tk, u2] } := (sb.2 _ (Nat.ne_of_gt hel)).trans hT
    have new : ObjOk X.prog X.w (upd H s.heap.objs.size (.tup [.int (i : Nat), x])) h'' s.heap.objs.size (.tup [.int (i : Nat), x]) :=
      ⟨by show 2 ≤ sizeLine; decide, [.int i tk, u2], .cons ⟨_, rfl⟩ (.cons ru .nil), ⟨_, hT2, rfl, _, rfl⟩⟩
    have I1 : Inv X pins σ (upd H s.heap.objs.size (.tup [.int (i : Nat), x])) { s with heap := h'', toks := tk + 1 } :=
      I.turnedNew (ch := [e, it]) (fun b ob hb q => (sb.2 b (fun z => hb (by simp [z]))).trans (hk b ob (fun z => hb (by simp [z])) (fun z => hb (by simp [z])) q)) hf (Nat.le_refl _) new
    refine ⟨.ref s.heap.objs.size, _, I1, rfl, ⟨_, x, rfl, I.hok.fresh (Nat.le_refl _), rfl, fun ys hy => by rw [I.tuple_inj hy hq]; exact hx⟩, ⟨⟨u2, ?_⟩, (let ⟨⟨o, ho, r⟩, _⟩ := hit'; ⟨o, (sb.2 it (Ne.symm hne)).trans ho, r⟩), hne⟩, fun b hb => ?_⟩
    · have e1 : ((i + 1 : Nat) : Int) = (i : Int) + 1 := by omega
      rw [e1]; exact he'
    · have hb' : b < s.heap.objs.size := by
        have e' : b = e ∨ b = it := by simpa using hb
        rcases e' with z | z
        · rw [z]; exact hel
        · rw [z]; exact hil
      rw [upd_ne (Nat.ne_of_lt hb')]
      exact (hf b hb).1
  done := by
    intro X hP hw hK hc i pins s σ H E I hf st hg
    subst hP hw hK
    obtain ⟨⟨old, he⟩, hit, hne⟩ := st
    obtain ⟨xs, hq, hx⟩ := hg
    obtain ⟨its, rv, p, hz⟩ := I.tuple hq
    obtain ⟨f0, f1, f2, f3, f4, f5⟩ := hf it (by simp)
    have hl := rv.length
    have p' : s.heap.IsTuple a its.toArray := p
    have hT : s.TypeIs (.ref e) "enumerate" := ⟨_, he, rfl⟩
    unfold pyNext
    refine wpAny_bind (wpAny_attempt (wpAny_callSpecial?_slot (name := Str.ofString "__next__") hT F.slot_enumerate_next
      (wpAny_call_entry F.slot_enumerate_next hT F.entry_enumerate_next ?_ (F.args_enumerate_next_1 _))))
    show wpAny _ _ (field (.ref e) 2 >>= _) _ _ _
    refine wpAny_bind (wpAny_field he rfl (x := .ref it) rfl ?_)
    refine wpAny_bind (EnumT.nextOf_tuple_end (I.ok.hd hc) hit p' (by simp; omega) fun h' x eb hx' => ?_)
    obtain ⟨o, ho, hc⟩ := hx'
    refine wpAny_bind (wpAny_isInstance (T := "StopIteration") (b := true) ⟨o, ho, hc⟩ isSubtype_stop ?_)
    exact wpAny_pure ⟨rfl, I.turned (t' := s.toks) (fun b o hb q => eb b o hb q) f0 f1 f3 f4 f5⟩
  self := fun A i s Q E st h => let ⟨⟨_, he⟩, _⟩ := st; wpAny_pyIter_enum he h
def iEnumT (K : PySem.W.Frag) (ta : TA) : TI := fun σ H R => ta σ H fun vs H1 => ∃ a xs, vs = [.ref a] ∧ SqT K H1 a xs ∧ R (IteT K a) H1
theorem pi_enumT {X : Cx} {e : Expr} {ta : TA} {p pos tpos : Pos} {elts : List Expr} {kk : Nat} (hg : Gl X "enumerate") (hm : X.mg "enumerate" = none) (ha : PA X [e] ta) (hs : starEach [e] X.env = [(false, eval e X.env)] := by rfl) :
    PI X (.Tuple elts kk tpos) (.Call (.Name "enumerate" p) [e] [] pos) (iEnumT X.K ta) := by
  refine ⟨fun pins s σ H R I h => ?_⟩
  refine Call_ (ld_blt I hg hm boot_enumerate (PyProof.Rows.callWith_type1 (thn (ha.run pos pins s σ H _ I h) fun us s1 ⟨vs, H1, I1, r1, q1⟩ => ?_) hs rfl))
  obtain ⟨a, xs, ex, hq, q⟩ := q1
  subst ex
  cases r1 with
  | cons r rr =>
    cases rr
    cases r
    obtain ⟨its, rv, p', hz⟩ := I1.tuple hq
    refine EnumT.call_enumerate_tuple (show s1.heap.IsTuple a its.toArray from p') fun h' he hit hsz hk => wpAny_pyIter_enum he ?_
    have I2 : Inv X pins σ H1 { s1 with heap := h' } := I1.kept (t' := s1.toks) hk
    refine ⟨s1.heap.objs.size + 1, [s1.heap.objs.size + 1, s1.heap.objs.size], _, _, H1, rfl, I2, turn_enumT a (s1.heap.objs.size + 1) s1.heap.objs.size, ⟨⟨.none, he⟩, hit, Nat.succ_ne_self _⟩, fun b hb => ?_, q⟩
    have e' : b = s1.heap.objs.size + 1 ∨ b = s1.heap.objs.size := by simpa using hb
    have hle : s1.heap.objs.size ≤ b := by
      rcases e' with z | z
      · rw [z]; exact Nat.le_add_right _ _
      · rw [z]; exact Nat.le_refl _
    exact I1.fpOk hle (I1.hok.fresh hle)
end L2

set_option Elab.async false
set_option linter.all false
set_option maxRecDepth 100000
/-! TM20: walks over enumerate; list(range(..)). -/
namespace TM
open PySem L2
def enumL {α : Type} (xs : List α) : List (Int × α) := xs.zipIdx.map fun p => (((p.2 : Nat) : Int), p.1)
theorem enumL_get {α : Type} {xs : List α} {i : Nat} : (enumL xs)[i]? = xs[i]?.map fun x => (((i : Nat) : Int), x) := by
  unfold enumL
  rw [List.getElem?_map, List.getElem?_zipIdx]
  cases xs[i]? <;> simp
theorem enumL_len {α : Type} {xs : List α} : (enumL xs).length = xs.length := by
  unfold enumL
  rw [List.length_map, List.length_zipIdx]
abbrev gPair (K : Fg) (i j : Nat) : TG := gTup K 2 (gCons (gName i) (gCons (gName j) gNil))
theorem pair_store {K : Fg} {f : Fr} {σ τ : Ty} {i j : Nat} {T : Addr} {u w : V} {x : σ.T} {y : τ.T} {H2 Hs2 : Hp} {st : St} {G' : List Slot} {Q : St → Hp → Prop} (env : Env K f G' [] st [] H2 Hs2) (hT : H2 T = none)
    (r1 : σ.rep K Hs2 u x) (r2 : τ.rep K Hs2 w y) (q : ∀ σ' H' Hs', Env K f (bind2 i j σ τ (x, y) G') [] σ' [] H' Hs' → Q σ' H') : gPair K i j (.ref T) st (upd H2 T (.tup [u, w])) Q := by
  have g := Grow.new (o := .tup [u, w]) env.view hT
  have e1 := env.grown g
  refine ⟨T, [u, w], rfl, SqT.of upd_same, rfl, u, [w], rfl, w, [], rfl, rfl, ?_⟩
  exact q _ _ _ ((e1.storeVal i (σ.mono g.up r1)).storeVal j (τ.mono g.up r2))
theorem pair_bind {K : Fg} {σ τ : Ty} {i j : Nat} {T : Addr} {u w : V} {x : σ.T} {y : τ.T} {H2 Hv2 : Hp} {st : St} {G' : List Slot} {Q : St → Hp → Prop} (vw : View H2 Hv2) (env : VEnv K Hv2 G' st) (hT : H2 T = none)
    (r1 : σ.rep K Hv2 u x) (r2 : τ.rep K Hv2 w y) (q : ∀ σ' H' Hv', Grow H2 Hv2 H' Hv' → VEnv K Hv' (bind2 i j σ τ (x, y) G') σ' → (∀ vs : List Nat, (∀ k ∈ [i, j], k ∈ vs) → wipe σ' vs = wipe st vs) → Q σ' H') : gPair K i j (.ref T) st (upd H2 T (.tup [u, w])) Q := by
  have g := Grow.new (o := .tup [u, w]) vw hT
  refine ⟨T, [u, w], rfl, SqT.of upd_same, rfl, u, [w], rfl, w, [], rfl, rfl, ?_⟩
  refine q _ _ _ g (((env.mono g.up).set i (σ.mono g.up r1)).set j (τ.mono g.up r2)) fun vs hv => ?_
  rw [wipe_set (hv j (by simp)), wipe_set (hv i (by simp))]
section
variable {B : Bd} {G : List Slot} {e e1 e2 : Expr} {τ σ : Ty} {pos p tpos ap bp : Pos} {n n1 n2 : Str} {kk : Nat} {scope : Scope}
theorem pg_pair {X : Cx} (i j : Nat) (hc : X.calm = true) (hN : X.N.Nodup) (hi : X.N[i]? = some n1) (hj : X.N[j]? = some n2) (hx : Loc X.env.scope n1) (hy : Loc X.env.scope n2) (hf1 : X.fn n1 = true ∨ X.env.scope.names.lookup n1 = some .local) (hf2 : X.fn n2 = true ∨ X.env.scope.names.lookup n2 = some .local) :
    PG X (.Tuple [.Name n1 ap, .Name n2 bp] kk tpos) (gPair X.K i j) :=
  pg_tup hc (pgs_cons (pg_name (i := i) hN hi hx hf1) (pgs_cons (pg_name (i := j) hN hj hy hf2) pgs_nil))
theorem fj_enumL (i j : Nat) {m : Res (List τ.T)} (hc : B.calm = true) (hN : B.N.Nodup) (hi : B.N[i]? = some n1) (hj : B.N[j]? = some n2) (hx : Loc B.sc n1) (hy : Loc B.sc n2) (hg : B.sc.names.lookup ("enumerate" : Str) = some .globalImplicit) (hm : B.mg "enumerate" = none) (he : PJ B (stab G) e (tList τ) m)
    (hs : ∀ env, starEach [e] env = [(false, eval e env)] := by intro _; rfl) :
    FJ B G (.Tuple [.Name n1 ap, .Name n2 bp] kk tpos) (.Call (.Name "enumerate" p) [e] [] pos) (m.bind fun xs => .ok (enumL xs)) (bind2 i j tInt τ) := fun X W ok tk => by
  obtain ⟨t, h1, h2⟩ := he
  refine ⟨_, _, pi_enum (by show X.env.scope.names.lookup _ = _; rw [ok.sc]; exact hg) (by rw [ok.mg]; exact hm) (pa_cons (h1 X W ok.toCxOk tk) pa_nil (hs X.env)) (hs X.env), pg_pair i j (ok.calm.trans hc) (by rw [ok.N]; exact hN) (by rw [ok.N]; exact hi) (by rw [ok.N]; exact hj) (by rw [ok.sc]; exact hx) (by rw [ok.sc]; exact hy) (Or.inl (ok.fn _)) (Or.inl (ok.fn _)), fun f xok σ' H Hs R xs env q => ?_⟩
  refine h2 W xok σ' H Hs _ env.view env.vstab (xs.xw env) (Res.wp_mono (Res.wp_bind.mp q) fun ys k v H1 Hs1 g r => ?_)
  obtain ⟨a, us, rfl, ha, hl, hp⟩ := r
  refine ⟨a, us, rfl, SqL.of (g.view.sub _ _ ha), ?_⟩
  refine k _ H1 Hs1 (env.grown g) fun f' H2 Hs2 st G' env2 e k2 => ?_
  have hh : H2 a = some (.lst us) := env2.view.sub _ _ (e _ _ ha)
  refine ⟨fun x hx => ?_, fun hx => ⟨us, SqL.of hh, ?_⟩⟩
  · rw [enumL_get] at hx
    cases hy : ys[k2]? with
    | none => rw [hy] at hx; cases hx
    | some y =>
      rw [hy] at hx
      cases hx
      obtain ⟨u, hu, r⟩ := paired_get hp hy
      refine ⟨⟨us, u, SqL.of hh, hu⟩, fun v H3 hv Q q => ?_⟩
      obtain ⟨T, x, rfl, hT, rfl, hv⟩ := hv
      have : x = u := Option.some.inj ((hv us (SqL.of hh)).symm.trans hu)
      subst this
      rw [ok.K]
      exact pair_store (σ := tInt) (τ := τ) env2 hT rfl (τ.mono e r) q
  · rw [paired_len hp, ← enumL_len]; exact List.getElem?_eq_none_iff.mp hx
theorem fj_enumT (i j : Nat) {m : Res (List τ.T)} (hc : B.calm = true) (hN : B.N.Nodup) (hi : B.N[i]? = some n1) (hj : B.N[j]? = some n2) (hx : Loc B.sc n1) (hy : Loc B.sc n2) (hg : B.sc.names.lookup ("enumerate" : Str) = some .globalImplicit) (hm : B.mg "enumerate" = none) (he : PJ B (stab G) e (tTup τ) m)
    (hs : ∀ env, starEach [e] env = [(false, eval e env)] := by intro _; rfl) :
    FJ B G (.Tuple [.Name n1 ap, .Name n2 bp] kk tpos) (.Call (.Name "enumerate" p) [e] [] pos) (m.bind fun xs => .ok (enumL xs)) (bind2 i j tInt τ) := fun X W ok tk => by
  obtain ⟨t, h1, h2⟩ := he
  refine ⟨_, _, pi_enumT (by show X.env.scope.names.lookup _ = _; rw [ok.sc]; exact hg) (by rw [ok.mg]; exact hm) (pa_cons (h1 X W ok.toCxOk tk) pa_nil (hs X.env)) (hs X.env), pg_pair i j (ok.calm.trans hc) (by rw [ok.N]; exact hN) (by rw [ok.N]; exact hi) (by rw [ok.N]; exact hj) (by rw [ok.sc]; exact hx) (by rw [ok.sc]; exact hy) (Or.inl (ok.fn _)) (Or.inl (ok.fn _)), fun f xok σ' H Hs R xs env q => ?_⟩
  refine h2 W xok σ' H Hs _ env.view env.vstab (xs.xw env) (Res.wp_mono (Res.wp_bind.mp q) fun ys k v H1 Hs1 g r => ?_)
  obtain ⟨a, us, rfl, ha, hl, hp⟩ := r
  refine ⟨a, us, rfl, by rw [ok.K]; exact sqT_mono g.view.sub ha, ?_⟩
  refine k _ H1 Hs1 (env.grown g) fun f' H2 Hs2 st G' env2 e k2 => ?_
  have hh : SqT X.K H2 a us := by rw [ok.K]; exact sqT_mono env2.view.sub (sqT_mono e ha)
  refine ⟨fun x hx => ?_, fun hx => ⟨us, hh, ?_⟩⟩
  · rw [enumL_get] at hx
    cases hy : ys[k2]? with
    | none => rw [hy] at hx; cases hx
    | some y =>
      rw [hy] at hx
      cases hx
      obtain ⟨u, hu, r⟩ := paired_get hp hy
      refine ⟨⟨us, u, hh, hu⟩, fun v H3 hv Q q => ?_⟩
      obtain ⟨T, x, rfl, hT, rfl, hv⟩ := hv
      have : x = u := Option.some.inj ((hv us hh).symm.trans hu)
      subst this
      rw [ok.K]
      exact pair_store (σ := tInt) (τ := τ) env2 hT rfl (τ.mono e r) q
  · rw [paired_len hp, ← enumL_len]; exact List.getElem?_eq_none_iff.mp hx
abbrev LocF (B : Bd) (scope : Scope) (n : Str) : Prop := (scope.names.lookup n == some .cell) = true ∨ (lcB B scope).sc.names.lookup n = some .local
theorem pij_enumL (i j : Nat) {m : Res (List τ.T)} (hc : B.calm = true) (hN : B.N.Nodup) (hi : B.N[i]? = some n1) (hj : B.N[j]? = some n2) (hx : Loc (lcB B scope).sc n1) (hy : Loc (lcB B scope).sc n2) (hf1 : LocF B scope n1) (hf2 : LocF B scope n2)
    (hg : B.sc.names.lookup ("enumerate" : Str) = some .globalImplicit) (hm : B.mg "enumerate" = none) (he : PJ B G e (tList τ) m) (hs : ∀ env, starEach [e] env = [(false, eval e env)] := by intro _; rfl) :
    PIJ B (lcB B scope) scope G (.Tuple [.Name n1 ap, .Name n2 bp] kk tpos) (.Call (.Name "enumerate" p) [e] [] pos) (m.bind fun xs => .ok (enumL xs)) (bind2 i j tInt τ) [i, j] := by
  obtain ⟨t, h1, h2⟩ := he
  refine ⟨fun W => iEnum B.K (tCons (t W) tNil), gPair B.K i j, fun X W ok tk => by rw [← ok.K]; exact pi_enum (by show X.env.scope.names.lookup _ = _; rw [ok.sc]; exact hg) (by rw [ok.mg]; exact hm) (pa_cons (h1 X W ok tk) pa_nil (hs X.env)) (hs X.env),
    fun X ok hfn => by
      have : X.K = B.K := ok.K
      rw [← this]
      exact pg_pair i j (ok.calm.trans hc) (by rw [ok.N]; exact hN) (by rw [ok.N]; exact hi) (by rw [ok.N]; exact hj) (by rw [ok.sc]; exact hx) (by rw [ok.sc]; exact hy) (by rw [hfn, ok.sc]; exact hf1) (by rw [hfn, ok.sc]; exact hf2), fun W xok st H Hv R v ve xw q => ?_⟩
  refine h2 W xok st H Hv _ v ve xw (Res.wp_mono (Res.wp_bind.mp q) fun ys k u H1 Hv1 g r => ?_)
  obtain ⟨a, us, rfl, ha, hl, hp⟩ := r
  refine ⟨a, us, rfl, SqL.of (g.view.sub _ _ ha), k _ H1 Hv1 g (by rw [enumL_len]; exact hl) fun H2 Hv2 σ' G' v2 ve2 e2 k2 => ?_⟩
  have hh : H2 a = some (.lst us) := v2.sub _ _ (e2 _ _ ha)
  refine ⟨fun x hx => ?_, fun hx => ⟨us, SqL.of hh, ?_⟩⟩
  · rw [enumL_get] at hx
    cases hy : ys[k2]? with
    | none => rw [hy] at hx; cases hx
    | some y =>
      rw [hy] at hx
      cases hx
      obtain ⟨u, hu, r⟩ := paired_get hp hy
      refine ⟨⟨us, u, SqL.of hh, hu⟩, fun v H3 hv Q q => ?_⟩
      obtain ⟨T, x, rfl, hT, rfl, hv⟩ := hv
      have : x = u := Option.some.inj ((hv us (SqL.of hh)).symm.trans hu)
      subst this
      exact pair_bind (σ := tInt) (τ := τ) v2 ve2 hT rfl (τ.mono e2 r) q
  · rw [paired_len hp, ← enumL_len]; exact List.getElem?_eq_none_iff.mp hx
theorem pij_enumT (i j : Nat) {m : Res (List τ.T)} (hc : B.calm = true) (hN : B.N.Nodup) (hi : B.N[i]? = some n1) (hj : B.N[j]? = some n2) (hx : Loc (lcB B scope).sc n1) (hy : Loc (lcB B scope).sc n2) (hf1 : LocF B scope n1) (hf2 : LocF B scope n2)
    (hg : B.sc.names.lookup ("enumerate" : Str) = some .globalImplicit) (hm : B.mg "enumerate" = none) (he : PJ B G e (tTup τ) m) (hs : ∀ env, starEach [e] env = [(false, eval e env)] := by intro _; rfl) :
    PIJ B (lcB B scope) scope G (.Tuple [.Name n1 ap, .Name n2 bp] kk tpos) (.Call (.Name "enumerate" p) [e] [] pos) (m.bind fun xs => .ok (enumL xs)) (bind2 i j tInt τ) [i, j] := by
  obtain ⟨t, h1, h2⟩ := he
  refine ⟨fun W => iEnumT B.K (tCons (t W) tNil), gPair B.K i j, fun X W ok tk => by rw [← ok.K]; exact pi_enumT (by show X.env.scope.names.lookup _ = _; rw [ok.sc]; exact hg) (by rw [ok.mg]; exact hm) (pa_cons (h1 X W ok tk) pa_nil (hs X.env)) (hs X.env),
    fun X ok hfn => by
      have : X.K = B.K := ok.K
      rw [← this]
      exact pg_pair i j (ok.calm.trans hc) (by rw [ok.N]; exact hN) (by rw [ok.N]; exact hi) (by rw [ok.N]; exact hj) (by rw [ok.sc]; exact hx) (by rw [ok.sc]; exact hy) (by rw [hfn, ok.sc]; exact hf1) (by rw [hfn, ok.sc]; exact hf2), fun W xok st H Hv R v ve xw q => ?_⟩
  refine h2 W xok st H Hv _ v ve xw (Res.wp_mono (Res.wp_bind.mp q) fun ys k u H1 Hv1 g r => ?_)
  obtain ⟨a, us, rfl, ha, hl, hp⟩ := r
  refine ⟨a, us, rfl, sqT_mono g.view.sub ha, k _ H1 Hv1 g (by rw [enumL_len]; exact hl) fun H2 Hv2 σ' G' v2 ve2 e2 k2 => ?_⟩
  have hh : SqT B.K H2 a us := sqT_mono v2.sub (sqT_mono e2 ha)
  refine ⟨fun x hx => ?_, fun hx => ⟨us, hh, ?_⟩⟩
  · rw [enumL_get] at hx
    cases hy : ys[k2]? with
    | none => rw [hy] at hx; cases hx
    | some y =>
      rw [hy] at hx
      cases hx
      obtain ⟨u, hu, r⟩ := paired_get hp hy
      refine ⟨⟨us, u, hh, hu⟩, fun v H3 hv Q q => ?_⟩
      obtain ⟨T, x, rfl, hT, rfl, hv⟩ := hv
      have : x = u := Option.some.inj ((hv us hh).symm.trans hu)
      subst this
      exact pair_bind (σ := tInt) (τ := τ) v2 ve2 hT rfl (τ.mono e2 r) q
  · rw [paired_len hp, ← enumL_len]; exact List.getElem?_eq_none_iff.mp hx
/-! list(range(j)), list(range(i, j)) -/
theorem rgV_paired {K : Fg} {H : Hp} {a b : Int} : Paired (tInt.rep K H) (rgV a b) (rngL a b) := by
  unfold rgV rngL
  generalize List.range (b - a).toNat = l
  induction l with
  | nil => exact .nil
  | cons x l ih => exact .cons rfl ih
theorem oj_listRg1 {m : Res Int} {rp lp : Pos} (hc : B.calm = true) (hl : B.sc.names.lookup ("list" : Str) = some .globalImplicit) (hlm : B.mg "list" = none) (hg : B.sc.names.lookup ("range" : Str) = some .globalImplicit) (hm : B.mg "range" = none) (he : PJ B G e tInt m)
    (hs : ∀ env, starEach [e] env = (false, eval e env) :: starEach [] env := by intro _; rfl) (hs2 : ∀ env, starEach [.Call (.Name "range" rp) [e] [] pos] env = (false, eval (.Call (.Name "range" rp) [e] [] pos) env) :: starEach [] env := by intro _; rfl) :
    OJ B G (.Call (.Name "list" lp) [.Call (.Name "range" rp) [e] [] pos] [] tpos) (kL (kVal tInt)) (m.bind fun j => rngC 0 j) := by
  obtain ⟨t, h1, h2⟩ := he
  refine ⟨fun W => tLstRg (tRg1 (t W)), fun X W ok tk => pe_listRg (ok.calm.trans hc) (by show X.env.scope.names.lookup _ = _; rw [ok.sc]; exact hl) (by rw [ok.mg]; exact hlm) (prg_1 (by show X.env.scope.names.lookup _ = _; rw [ok.sc]; exact hg) (by rw [ok.mg]; exact hm) (h1 X W ok tk) (hs X.env)) (hs2 X.env), fun W xok st H Hv Q v ve xw q => ?_⟩
  refine h2 W xok st H Hv _ v ve xw (Res.wp_mono (Res.wp_bind.mp q) fun (j : Int) k u H1 Hv1 g r => ?_)
  obtain rfl : u = .int j := r
  refine ⟨j, rfl, ?_⟩
  unfold rngC gate at k
  by_cases h : rngOk 0 ∧ rngOk j ∧ (j - 0).toNat ≤ sizeLine
  · rw [if_pos h] at k
    refine ⟨⟨h.1.1, h.1.2, h.2.1.1, h.2.1.2, h.2.2⟩, fun q hq => ?_⟩
    exact newList (τ := tInt) g.view hq rgV_paired (by rw [rngL_len]; exact h.2.2) fun v' H' Hv' S g' r f => k v' H' Hv' S (g.trans g') r ⟨f.nodup, fun a m => g.same.free (f.new a m), f.live, f.sep⟩
  · rw [if_neg h] at k; exact k.elim
end
end TM

set_option Elab.async false
set_option linter.all false
set_option maxRecDepth 100000
/-! TM21: stores of comprehensions into captured names; constants of the module; list.index; insert; is True. -/
namespace TM
open PySem L2
theorem sw_cell {elt : Expr} {gs : List Comprehension} {scope : Scope} {pos py : Pos} {y : Str} {l : Nat} {env : PySem.Env} (hy : env.scope.names.lookup y = some .cell) : swapsWith (.ListComp elt gs scope pos) (some (.Name y py)) l env = pure false := by
  have ky : env.kindOf y = some .cell := hy
  unfold swapsWith
  simp only [ky]
  cases (env.blockKind == ScopeKind.function) <;> rfl
inductive IsOpK : CmpOp → Bool → Prop
  | is : IsOpK .Is true
  | isnot : IsOpK .IsNot false
def rIsBK (k : Bool) : R2 := fun x y H Q => ∃ a b : Bool, x = .bl a ∧ y = .bl b ∧ Q (.bl (eqb k a b)) H
theorem IsOpK.rule {op : CmpOp} {k : Bool} (h : IsOpK op k) (X : Cx) : OpR X (compareOp op) (rIsBK k) := by
  cases h
  · exact op_is_bl
  · exact op_isnot_bl
theorem IsOpK.nb {op : CmpOp} {k : Bool} {b : Expr} (h : IsOpK op k) : behindInMarks op b = false := by
  cases h <;> exact nobehind _ (by decide) (by decide)
section
variable {B : Bd} {G : List Slot} {e a b elt : Expr} {gs : List Comprehension} {scope : Scope} {τ σ : Ty} {κ : Kd} {pos pos' p cpos apos py spos : Pos} {n : Str} {rest : List Stmt} {α β γ : Type} {fin : α → Fin} {pin : Addr → Prop}
/-- name = [..], name a captured one -/
theorem bj_setCell (i : Nat) {m1 : Res β} {G1 : β → List Slot} {v : β → κ.ty.T} {m2 : β → Res α} (hN : B.N.Nodup) (hi : B.N[i]? = some n) (hx : B.sc.names.lookup n = some .cell) (he : EJ B G (.ListComp elt gs scope pos) m1 G1 κ v)
    (hr : ∀ b, BJ B ((G1 b).set i (some ⟨κ, v b⟩)) rest (m2 b) fin) : BJ B G (.Assign [.Name n py] (.ListComp elt gs scope pos) spos :: rest) (m1.bind m2) fin :=
  bj_asg i hN hi (Or.inr hx) (Or.inr trivial) he hr fun X ok te h => ps_set (i := i) (by rw [ok.N]; exact hN) (by rw [ok.N]; exact hi) (by rw [ok.sc]; exact Or.inr hx) h (sw_cell (by rw [ok.sc]; exact hx)) (.inl (ok.fn n))
/-- a number of the module -/
theorem pj_globI (z : Int) (hg : B.sc.names.lookup n = some .globalImplicit) (hm : ∃ t, B.mg n = some (.int z t)) (hd : (n == ("__debug__" : Str)) = false := by decide) : PJ B G (.Name n pos) tInt (.ok z) := by
  obtain ⟨t, hm⟩ := hm
  refine ⟨fun _ => tC (.int z), fun X W ok tk => pe_glob (by show X.env.scope.names.lookup _ = _; rw [ok.sc]; exact hg) (by rw [ok.mg]; exact hm) ⟨t, rfl⟩ hd, fun W xok st H Hv Q v ve xw q => ?_⟩
  exact q _ H Hv (Grow.refl v) rfl
/-! list.index -/
def idxR (xs : List Int) (x : Int) : Res Int := match xs.findIdx? (fun y => decide (y = x)) with
  | some j => .ok ((j : Nat) : Int)
  | none => .bad
theorem flat_pints {K : Fg} {H : Hp} : ∀ {us : List V} {xs : List Int}, Paired (tInt.rep K H) us xs → us.all flatV = true
  | _, _, .nil => rfl
  | u :: l, _, .cons r t => by
    have r' : u = .int _ := r
    rw [r', List.all_cons, flat_pints t]; rfl
instance {i j : Int} : Decidable (CPow i j) := by unfold CPow; infer_instance
def powR (x y : Int) : Res Int := gate (CPow x y) (x ^ y.toNat)
theorem powR_exc (x y : Int) (ex : Exc) : powR x y ≠ .exc ex := gate_exc
theorem pj_pow {ma mb : Res Int} (ha : PJ B G a tInt ma) (hb : PJ B G b tInt mb) : PJ B G (.BinOp a .Pow b pos) tInt (ma.bind fun x => mb.bind fun y => powR x y) :=
  pj_op (fun X _ => op_pow) (o2_I CPow fun i j => i ^ j.toNat) powR_exc ha hb
theorem eqV_ints (x y : Int) : eqV (.int x) (.int y) = decide (x = y) := by
  show (x == y) = decide (x = y)
  by_cases h : x = y
  · subst h; simp
  · rw [decide_eq_false h]; simpa using h
theorem findIdx_fst {α : Type} {p : α → Bool} : ∀ {xs : List α} {j : Nat}, xs.findIdx? p = some j → (∃ x, xs[j]? = some x ∧ p x = true) ∧ ∀ m x, m < j → xs[m]? = some x → p x = false
  | [], j, h => by simp at h
  | y :: xs, j, h => by
    rw [List.findIdx?_cons] at h
    cases hp : p y with
    | true =>
      rw [hp, if_pos rfl] at h
      cases h
      exact ⟨⟨y, rfl, hp⟩, fun m x hm => (Nat.not_lt_zero _ hm).elim⟩
    | false =>
      rw [hp, if_neg (by simp)] at h
      cases hf : xs.findIdx? p with
      | none => rw [hf] at h; cases h
      | some k =>
        rw [hf] at h
        cases h
        obtain ⟨⟨x, h1, h2⟩, h3⟩ := findIdx_fst hf
        refine ⟨⟨x, by simpa using h1, h2⟩, fun m z hm hz => ?_⟩
        cases m with
        | zero => simp at hz; rw [← hz]; exact hp
        | succ m => exact h3 m z (Nat.lt_of_succ_lt_succ hm) (by simpa using hz)
theorem pj_index {ma : Res (List Int)} {mb : Res Int} (ha : PJ B G a (tList tInt) ma) (hb : PJ B G b tInt mb) (hbase : ∀ env, attributeBase a "index" env (eval a env) = eval a env := by intro _; rfl)
    (hfew : ∀ env, ((backTo cpos (starEach [b] env)).all (fun x => !x.1) && (backToKw cpos (keywordEach [] env)).all (fun x => x.1.isSome) && decide (([b] : List Expr).length + ([] : List Keyword).length + (if ([] : List Keyword).isEmpty then 0 else 1) < 30)) = true := by intro _; rfl)
    (hline : (apos.endLine == cpos.line) = true := by rfl) (hst : ∀ env, starEach [b] env = (false, eval b env) :: starEach [] env := by intro _; rfl) :
    PJ B G (.Call (.Attribute a "index" apos) [b] [] cpos) tInt (ma.bind fun x => mb.bind fun y => idxR x y) := by
  obtain ⟨ta, a1, a2⟩ := ha
  obtain ⟨tb, b1, b2⟩ := hb
  refine ⟨fun W => tBM B.K "list" (rIndex B.K) (ta W) (tCons (tb W) tNil), fun X W ok tk => by
    have h := pe_bm PySem.F.plainAttrs_list PySem.F.slot_list_index PySem.F.type_list_index mt_index (a1 X W ok tk) (pa_cons (b1 X W ok tk) pa_nil (hst X.env)) (hbase X.env) (hfew X.env) hline (hst X.env) rfl
    rw [ok.K] at h
    exact h, fun W xok st H Hv Q v ve xw q => ?_⟩
  refine a2 W xok st H Hv _ v ve xw (Res.wp_mono (Res.wp_bind.mp q) fun (xs : List Int) k u H1 Hv1 g1 r1 => ?_)
  obtain ⟨p, us, rfl, h2, h3, h4⟩ := r1
  refine ⟨.inl ⟨rfl, us, SqL.of (g1.view.sub _ _ h2)⟩, ?_⟩
  refine b2 W xok st H1 Hv1 _ g1.view (ve.mono g1.up) (xw.mono g1.same) (Res.wp_mono (Res.wp_bind.mp k) fun (y : Int) k2 w H2 Hv2 g2 r2 => ?_)
  obtain rfl : w = .int y := r2
  have hu : Paired (tInt.rep B.K Hv2) us xs := paired_imp h4 fun _ _ r => tInt.mono g2.up r
  unfold idxR at k2
  cases e : xs.findIdx? (fun z => decide (z = y)) with
  | none => rw [e] at k2; exact k2.elim
  | some j =>
    rw [e] at k2
    obtain ⟨⟨x, e1, e2⟩, e3⟩ := findIdx_fst e
    obtain ⟨z, e4, r4⟩ := paired_get hu e1
    have r4' : z = .int x := r4
    refine ⟨p, us, .int y, j, z, rfl, rfl, SqL.of (g2.view.sub _ _ (g2.up _ _ h2)), rfl, flat_pints hu, e4, ?_, fun m z' hm hz => ?_, k2 _ H2 Hv2 (g1.trans g2) rfl⟩
    · rw [r4', eqV_ints]; exact e2
    · obtain ⟨x', e5, r5⟩ := paired_get_l hu hz
      have r5' : z' = .int x' := r5
      rw [r5', eqV_ints]
      exact e3 m x' hm e5
theorem pj_isB {op : CmpOp} {k : Bool} (ho : IsOpK op k) {ma mb : Res Bool} (ha : PJ B G a tBool ma) (hb : PJ B G b tBool mb) : PJ B G (.Compare a [op] [b] pos) tBool (ma.bind fun x => mb.bind fun y => .ok (eqb k x y)) :=
  pj_cmp (fun X _ => ho.rule X) ho.nb (fun H Hv v w x y Q vw r1 r2 z e q => by
    cases e
    exact ⟨x, y, r1, r2, q _ H Hv (Grow.refl vw) rfl⟩) noexc ha hb
end
end TM

set_option Elab.async false
set_option linter.all false
set_option maxRecDepth 100000
/-! TM22: equality of data at depth. -/
namespace TM
open PySem L2
structure DeqN (n : Nat) (τ : Ty) where
  d : τ.T → PyData
  dec : DecidableEq τ.T
  dp : ∀ {K : Fg} {H : Hp} {v : V} {x : τ.T}, τ.rep K H v x → Dp K H v (d x)
  lay : ∀ x, (d x).canLay0 = true
  dep : ∀ x, (d x).depth ≤ n
  eqv : ∀ x y, PyData.eqv (d x) (d y) = @decide (x = y) (dec x y)
def deqOf {n : Nat} {τ : Ty} (s : DeqN n τ) (h : n ≤ 64) : Deq τ where
  d := s.d
  dec := s.dec
  dp := fun {K H v x} r => ⟨s.dp r, by
    show ((s.d x).canLay0 && decide ((s.d x).depth ≤ 64)) = true
    rw [s.lay, decide_eq_true (Nat.le_trans (s.dep x) h)]; rfl⟩
  eqv := s.eqv
def dnInt : DeqN 0 tInt where
  d := .int
  dec := fun a b => inferInstanceAs (Decidable ((a : Int) = b))
  dp := fun {K H v x} h => by
    have h' : v = .int x := h
    rw [h']; exact .int x
  lay := fun _ => rfl
  dep := fun _ => Nat.le_refl 0
  eqv := fun x y => by
    show ((x : Int) == y) = _
    by_cases h : (x : Int) = y
    · subst h; simp
    · rw [decide_eq_false h]; simpa using h
def dnBool : DeqN 0 tBool where
  d := .bool
  dec := fun a b => inferInstanceAs (Decidable ((a : Bool) = b))
  dp := fun {K H v x} h => by
    have h' : v = .bl x := h
    rw [h']; exact .bl x
  lay := fun _ => rfl
  dep := fun _ => Nat.le_refl 0
  eqv := fun x y => by cases x <;> cases y <;> rfl
def dnNone : DeqN 0 tNone where
  d := fun _ => .none
  dec := fun a b => inferInstanceAs (Decidable ((a : Unit) = b))
  dp := fun {K H v x} h => by
    have h' : v = .non := h
    rw [h']; exact .non
  lay := fun _ => rfl
  dep := fun _ => Nat.le_refl 0
  eqv := fun x y => rfl
section
variable {n : Nat} {τ σ ρ : Ty}
theorem dpAll_of (s : DeqN n τ) {K : Fg} {H : Hp} : ∀ {us : List V} {xs : List τ.T}, Paired (τ.rep K H) us xs → DpAll K H us (xs.map s.d)
  | _, _, .nil => .nil
  | _, _, .cons r t => .cons (s.dp r) (dpAll_of s t)
theorem layAll_of (s : DeqN n τ) : ∀ xs : List τ.T, PyData.canLayAll0 (xs.map s.d) = true
  | [] => rfl
  | x :: xs => by
    show ((s.d x).canLay0 && PyData.canLayAll0 (xs.map s.d)) = true
    rw [s.lay, layAll_of s xs]; rfl
theorem depAll_of (s : DeqN n τ) : ∀ xs : List τ.T, PyData.depthAll (xs.map s.d) ≤ n
  | [] => Nat.zero_le _
  | x :: xs => Nat.max_le.mpr ⟨s.dep x, depAll_of s xs⟩
theorem eqvAll_of (s : DeqN n τ) (dl : DecidableEq (List τ.T)) : ∀ xs ys : List τ.T, PyData.eqvAll (xs.map s.d) (ys.map s.d) = @decide (xs = ys) (dl xs ys)
  | [], [] => by simp [PyData.eqvAll]
  | [], y :: ys => by simp [PyData.eqvAll]
  | x :: xs, [] => by simp [PyData.eqvAll]
  | x :: xs, y :: ys => by
    show (PyData.eqv (s.d x) (s.d y) && PyData.eqvAll (xs.map s.d) (ys.map s.d)) = _
    rw [s.eqv, eqvAll_of s dl xs ys]
    by_cases h : x = y
    · subst h
      by_cases h2 : xs = ys
      · subst h2; simp
      · simp [h2]
    · simp [h]
def decL (s : DeqN n τ) : DecidableEq (List τ.T) := @instDecidableEqList τ.T s.dec
def dnList (s : DeqN n τ) : DeqN (n + 1) (tList τ) where
  d := fun xs => .list (xs.map s.d)
  dec := decL s
  dp := fun {K H v x} ⟨a, us, h1, h2, _, h4⟩ => by
    rw [h1]; exact .lst (SqL.of h2) (dpAll_of s h4)
  lay := fun xs => layAll_of s xs
  dep := fun xs => Nat.succ_le_succ (depAll_of s xs)
  eqv := fun xs ys => eqvAll_of s (decL s) xs ys
def dnTup (s : DeqN n τ) : DeqN (n + 1) (tTup τ) where
  d := fun xs => .tuple (xs.map s.d)
  dec := decL s
  dp := fun {K H v x} ⟨a, us, h1, h2, _, h4⟩ => by
    rw [h1]; exact .tup h2 (dpAll_of s h4)
  lay := fun xs => layAll_of s xs
  dep := fun xs => Nat.succ_le_succ (depAll_of s xs)
  eqv := fun xs ys => eqvAll_of s (decL s) xs ys
def dn2 {m : Nat} (s : DeqN n σ) (t : DeqN m τ) : DeqN (max n m + 1) (tT2 σ τ) where
  d := fun x => .tuple [s.d x.1, t.d x.2]
  dec := @instDecidableEqProd σ.T τ.T s.dec t.dec
  dp := fun {K H v x} ⟨a, u, w, h1, h2, h3, h4⟩ => by
    rw [h1]; exact .tup h2 (.cons (s.dp h3) (.cons (t.dp h4) .nil))
  lay := fun x => by
    show ((s.d x.1).canLay0 && ((t.d x.2).canLay0 && true)) = true
    rw [s.lay, t.lay]; rfl
  dep := fun x => by
    show max ((s.d x.1).depth) (max ((t.d x.2).depth) 0) + 1 ≤ _
    have h1 := s.dep x.1
    have h2 := t.dep x.2
    omega
  eqv := fun x y => by
    show (PyData.eqv (s.d x.1) (s.d y.1) && (PyData.eqv (t.d x.2) (t.d y.2) && true)) = _
    rw [s.eqv, t.eqv]
    obtain ⟨a, b⟩ := x
    obtain ⟨c, d⟩ := y
    by_cases h : a = c
    · subst h
      by_cases h2 : b = d
      · subst h2; simp
      · simp [h2]
    · simp [h]
end
end TM

set_option Elab.async false
set_option linter.all false
set_option maxRecDepth 100000
/-! TM23: an item of a list of one's own is borrowed; loops that change the items in place. -/
namespace TM
open PySem L2
/-- a list of one's own whose item j (the object q) is lent -/
@[reducible] def kHole (pin : Addr → Prop) (q : Addr) (j : Nat) (κ : Kd) : Kd where
  ty := ⟨List κ.ty.T, fun _ _ _ _ => True, fun _ h => h⟩
  st := false
  rep := fun K S H Hs v xs => ∃ p vs Ss, v = .ref p ∧ pin p ∧ H p = some (.lst vs) ∧ xs.length ≤ sizeLine ∧ vs.length = xs.length ∧ vs[j]? = some (.ref q) ∧ S = p :: Ss.flatten ∧ Els (fun S v x => κ.rep K S H Hs v x) Ss (vs.eraseIdx j) (xs.eraseIdx j)
  keep := fun {K S H Hs H' Hs' v x} h k e => by
    obtain ⟨p, vs, Ss, h1, h0, h2, h3, h6, h7, h4, h5⟩ := h
    subst h4
    refine ⟨p, vs, Ss, h1, h0, k p List.mem_cons_self _ h2, h3, h6, h7, rfl, ?_⟩
    exact h5.imp fun S v x hm r => κ.keep r (fun a ha o ho => k a (List.mem_cons_of_mem _ (List.mem_flatten.mpr ⟨S, hm, ha⟩)) o ho) e
  thaw := fun _ _ _ => trivial
  stab := fun h => nomatch h
theorem erase_put {α : Type} : ∀ {l : List α} {j : Nat} {z : α}, j < l.length → (l.eraseIdx j).take j ++ [z] ++ (l.eraseIdx j).drop j = l.set j z
  | [], j, z, h => (Nat.not_lt_zero _ h).elim
  | a :: l, 0, z, h => by simp
  | a :: l, j + 1, z, h => by
    have ih := erase_put (l := l) (j := j) (z := z) (Nat.lt_of_succ_lt_succ h)
    simp only [List.eraseIdx_cons_succ, List.take_succ_cons, List.drop_succ_cons, List.set_cons_succ, List.cons_append]
    rw [ih]
/-- a slot and the temporary values are told anew, the heap as it is -/
theorem env_shift {K : Fg} {f : Fr} {G D' : List Slot} {σ : St} {vs' : List V} {H Hs : Hp} {SG SD SD' : List (List Addr)} {i : Nat} {S S' : List Addr} {ov : Option V} {s' : Slot}
    (a : Sls K H Hs SG σ G) (o : Own f (SD.flatten ++ SG.flatten) H Hs) (hi : SG[i]? = some S) (ho : σ[i]? = some ov) (ns : SlotOk K H Hs S' ov s')
    (b' : Sls K H Hs SD' (vs'.map some) D') (hc : ∀ c, List.count c SD'.flatten + List.count c S' ≤ List.count c SD.flatten + List.count c S) : Env K f (G.set i s') D' σ vs' H Hs := by
  have hcnt : ∀ c, List.count c (SD'.flatten ++ (SG.set i S').flatten) ≤ List.count c (SD.flatten ++ SG.flatten) := fun c => by
    rw [List.count_append, List.count_append]
    have h1 := count_set (a := c) (S' := S') hi
    have h2 := hc c
    omega
  have nd := nodup_count.mp o.nodup
  refine ⟨SG.set i S', SD', ?_, b', o.less (nodup_count.mpr fun c => Nat.le_trans (hcnt c) (nd c)) fun c m => mem_count.mpr (Nat.lt_of_lt_of_le (mem_count.mp m) (hcnt c))⟩
  have hσ : σ.set i ov = σ := by
    obtain ⟨hl, e⟩ := List.getElem?_eq_some_iff.mp ho
    rw [← e]; exact List.set_getElem_self hl
  have := Els.set (i := i) a ns
  rw [hσ] at this
  exact this
section
variable {K : Fg} {f : Fr} {G D : List Slot} {σ : St} {vs : List V} {H Hs : Hp} {pin pin' pn2 : Addr → Prop} {κ : Kd} {i r j : Nat}
theorem Env.borrow {xs : List (List κ.ty.T)} {x : List κ.ty.T} (h : Env K f G D σ vs H Hs) (hg : G[i]? = some (some ⟨kLP pin (kLP pin' κ), xs⟩)) (hj : xs[j]? = some x) : ∃ p us q, σ[i]? = some (some (.ref p)) ∧ H p = some (.lst us) ∧ us.length = xs.length ∧ us[j]? = some (.ref q) ∧
    Env K f (G.set i (some ⟨kHole pin q j (kLP pin' κ), xs⟩)) (some ⟨kLP (fun a => a = q ∧ pin' a) κ, x⟩ :: D) σ (.ref q :: vs) H Hs := by
  obtain ⟨p, us, SG, SD, Ss, e1, e2, e3, hpin, e4, e5, a, b, o⟩ := h.own (E := none) hg
  obtain ⟨S, v, s1, s2, q, ws, Ts, rfl, hq, r2, r3, r4, r5⟩ := e4.get hj
  refine ⟨p, us, q, e1, e2, e4.len.2, s2, env_shift (S' := p :: (Ss.eraseIdx j).flatten) (SD := SD) (SD' := S :: SD) a o e5 e1 ⟨_, rfl, p, us, Ss.eraseIdx j, rfl, hpin, e2, e3, e4.len.2, s2, rfl, e4.erase j⟩ ⟨⟨_, rfl, q, ws, Ts, rfl, ⟨rfl, hq⟩, r2, r3, r4, r5⟩, b⟩ fun c => ?_⟩
  have := count_erase (a := c) s1
  rw [List.flatten_cons, List.count_cons, List.count_cons, List.count_append]
  omega
/-- an own value is taken out of its slot -/
theorem Env.move {κ : Kd} {x : κ.ty.T} (h : Env K f G D σ vs H Hs) (hg : G[i]? = some (some ⟨κ, x⟩)) : ∃ v, σ[i]? = some (some v) ∧ Env K f (G.set i none) (some ⟨κ, x⟩ :: D) σ (v :: vs) H Hs := by
  obtain ⟨SG, SD, a, b, o⟩ := h
  obtain ⟨S, ov, e1, e2, v, e3, r⟩ := a.get hg
  subst e3
  refine ⟨v, e2, env_shift (S' := []) (SD := SD) (SD' := S :: SD) a o e1 e2 rfl ⟨⟨v, rfl, r⟩, b⟩ fun c => ?_⟩
  rw [List.flatten_cons, List.count_append, List.count_nil]
  omega
theorem Env.fill {q : Addr} {v : V} {xs : List (List κ.ty.T)} {y : List κ.ty.T} (h : Env K f G (some ⟨kLP pn2 κ, y⟩ :: D) σ (v :: vs) H Hs) (hg : G[i]? = some (some ⟨kHole pin q j (kLP pin' κ), xs⟩)) (hp : ∀ a, pn2 a → a = q ∧ pin' a) :
    Env K f (G.set i (some ⟨kLP pin (kLP pin' κ), xs.set j y⟩)) D σ vs H Hs := by
  obtain ⟨SG, SD, a, b, o⟩ := h
  cases SD with
  | nil => exact b.elim
  | cons S SD =>
    obtain ⟨S1, ov, e1, e2, v1, e3, p, us, Ss, rfl, hpin, h2, h3, h6, h7, rfl, h5⟩ := a.get hg
    obtain ⟨⟨v2, ev, q2, ws, Ts, rfl, hq, r2, r3, r4, r5⟩, b2⟩ := b
    cases ev
    obtain ⟨rfl, hq'⟩ := hp _ hq
    subst e3
    have hjl : j < us.length := (List.getElem?_eq_some_iff.mp h7).1
    have hjx : j < xs.length := by rw [← h6]; exact hjl
    have hle : j ≤ (xs.eraseIdx j).length := by
      rw [List.length_eraseIdx, if_pos hjx]; omega
    have rr : (kLP pin' κ).rep K S H Hs (.ref q2) y := ⟨q2, ws, Ts, rfl, hq', r2, r3, r4, r5⟩
    have hel := h5.insert j rr hle
    rw [erase_put hjl, erase_put hjx] at hel
    have hus : us.set j (.ref q2) = us := by
      obtain ⟨hl, e⟩ := List.getElem?_eq_some_iff.mp h7
      rw [← e]; exact List.set_getElem_self hl
    rw [hus] at hel
    refine env_shift (S' := p :: (Ss.take j ++ [S] ++ Ss.drop j).flatten) (SD := S :: SD) (SD' := SD) a o e1 e2 ⟨_, rfl, p, us, _, rfl, hpin, h2, by rw [List.length_set]; exact h3, rfl, hel⟩ b2 fun c => ?_
    have e : List.count c Ss.flatten = List.count c (Ss.take j).flatten + List.count c (Ss.drop j).flatten := by
      rw [← List.count_append, ← List.flatten_append, List.take_append_drop]
    rw [List.flatten_append, List.flatten_append, List.flatten_cons, List.flatten_cons, List.flatten_nil, List.append_nil, List.count_cons, List.count_cons, List.count_append, List.count_append, List.count_append]
    omega
/-- the pin is told anew -/
theorem Env.repin {xs : List κ.ty.T} {p : Addr} (h : Env K f G D σ vs H Hs) (hg : G[i]? = some (some ⟨kLP pin κ, xs⟩)) (hp : σ[i]? = some (some (.ref p)) → pin p → pn2 p) (hσ : σ[i]? = some (some (.ref p))) : Env K f (G.set i (some ⟨kLP pn2 κ, xs⟩)) D σ vs H Hs := by
  obtain ⟨p', us, SG, SD, Ss, e1, e2, e3, hpin, e4, e5, a, b, o⟩ := h.own (E := none) hg
  rw [hσ] at e1
  cases e1
  exact env_shift (S' := p :: Ss.flatten) (SD := SD) (SD' := SD) a o e5 hσ ⟨_, rfl, p, us, Ss, rfl, hp hσ hpin, e2, e3, rfl, e4⟩ b fun c => Nat.le_refl _
end
def borR {α : Type} (xs : List α) (i : Int) : Res (Nat × α) := match ixN xs.length i with
  | some j => match xs[j]? with
    | some x => .ok (j, x)
    | none => .bad
  | none => .bad
def forB {α β : Type} (xs : List α) (s : β) (g : α → β → Res (α × β)) : Res (List α × β) := match xs with
  | [] => .ok ([], s)
  | x :: xs => (g x s).bind fun r => (forB xs r.2 g).bind fun q => .ok (r.1 :: q.1, q.2)
section
variable {B : Bd} {G : List Slot} {e : Expr} {κ : Kd} {pos p p2 p3 : Pos} {n n2 : Str} {rest body : List Stmt} {α β : Type} {fin : α → Fin} {pin pin' pn2 : Addr → Prop}
/-- name = xs[e]: the item is lent -/
theorem bj_bor (i r : Nat) {xs : List (List κ.ty.T)} {m1 : Res Int} {m2 : Nat → List κ.ty.T → Res α} (hN : B.N.Nodup) (ho : nmOk B.N = true) (hi : B.N[i]? = some n) (hv : Vis B.sc n) (hri : B.N[r]? = some n2) (hx : Loc B.sc n2) (hg : G[i]? = some (some ⟨kLP pin (kLP pin' κ), xs⟩)) (he : PJ B G e tInt m1) (hs : PlainIx e)
    (hr : ∀ q j x, BJ B ((G.set i (some ⟨kHole pin q j (kLP pin' κ), xs⟩)).set r (some ⟨kLP (fun a => a = q ∧ pin' a) κ, x⟩)) rest (m2 j x) fin) (hsw : ∀ env, swapsWith (.Subscript (.Name n p) e p3) (some (.Name n2 p2)) pos.line env = pure false := by intro _; rfl) :
    BJ B G (.Assign [.Name n2 p2] (.Subscript (.Name n p) e p3) pos :: rest) (m1.bind fun k => (borR xs k).bind fun jx => m2 jx.1 jx.2) fin := fun X W ok tk => by
  have hx' := ix_list (X := X)
  rw [ok.K] at hx'
  refine pss_imp (pss_cons (ps_set (i := r) (by rw [ok.N]; exact hN) (by rw [ok.N]; exact hri) (by rw [ok.sc]; exact hx) (pe_ix hx' (pe_var (i := i) (by rw [ok.N]; exact hi) (by rw [ok.sc]; exact hv) (nmOk_at ho hi).1 (nmOk_at ho hi).2) (ej_imm he imm_int X W ok.toCxOk tk) hs) (hsw X.env) (.inl (ok.fn n2))) (pss_ex fun q => pss_ex fun j => pss_ex fun x => hr q j x X W ok tk)) fun D σ H ⟨f, xok, Hs, xss, env, q⟩ => ?_
  obtain ⟨p0, us0, e1, e2⟩ := own_var env hg
  refine ⟨_, e1, f, xok, [], [], Hs, xss, env, Res.wp_mono (Res.wp_bind.mp q) fun k q1 v H1 Hs1 env1 => ?_⟩
  have hv : v = .int k := env1.flat flat_int H1
  subst hv
  have env2 := env1.pop
  unfold borR at q1
  cases hj : ixN xs.length k with
  | none => rw [hj] at q1; exact q1.elim
  | some j =>
    rw [hj] at q1
    cases hx : xs[j]? with
    | none => simp only [hx] at q1; exact q1.elim
    | some x =>
      simp only [hx] at q1
      obtain ⟨p1, us, qq, f1, f2, f3, f4, env3⟩ := env2.borrow hg hx
      rw [e1] at f1
      cases f1
      exact ⟨p0, us, k, .ref qq, rfl, rfl, SqL.of f2, atI_of (by rw [f3]; exact hj) f4, qq, j, x, f, xok, Hs1, xss, env3.store r, q1⟩
/-- what was lent comes back -/
theorem bj_unbor (i r : Nat) {q : Addr} {j : Nat} {xs : List (List κ.ty.T)} {y : List κ.ty.T} {m : Res α} (hir : i ≠ r) (hg : G[i]? = some (some ⟨kHole pin q j (kLP pin' κ), xs⟩)) (hgr : G[r]? = some (some ⟨kLP pn2 κ, y⟩)) (hp : ∀ a, pn2 a → a = q ∧ pin' a)
    (h : BJ B ((G.set r none).set i (some ⟨kLP pin (kLP pin' κ), xs.set j y⟩)) rest m fin) : BJ B G rest m fin := fun X W ok tk =>
  pss_imp (h X W ok tk) fun D σ H ⟨f, xok, Hs, xss, env, q1⟩ => by
    obtain ⟨v, _, env2⟩ := env.move hgr
    exact ⟨f, xok, Hs, xss, env2.fill (by rw [List.getElem?_set_ne (Ne.symm hir)]; exact hg) hp, q1⟩
/-- for name in xs, the items changed in place -/
theorem bj_forB (i r : Nat) {xs0 : List (List κ.ty.T)} {g : β → List Slot} {mb : List κ.ty.T → β → Res (List κ.ty.T × β)} {mr : List (List κ.ty.T) → β → Res α} (s0 : β) (hcalm : B.calm = true) (hN : B.N.Nodup) (ho : nmOk B.N = true) (hi : B.N[i]? = some n) (hv : Vis B.sc n) (hri : B.N[r]? = some n2) (hx : Loc B.sc n2) (hir : i ≠ r)
    (hg : G[i]? = some (some ⟨kLP pin (kLP pin' κ), xs0⟩)) (hgl : ∀ s, i < (g s).length) (hrl : ∀ s, r < (g s).length) (hgr : ∀ s xs, ((((g s).set i xs).set r none)) = (g s).set i xs) (w0 : Wk G ((g s0).set i (some ⟨kLP pin (kLP pin' κ), xs0⟩)))
    (hb : ∀ pin q j x xs s, NJ B (((g s).set i (some ⟨kHole pin q j (kLP pin' κ), xs⟩)).set r (some ⟨kLP (fun a => a = q ∧ pin' a) κ, x⟩)) body (mb x s) fun ys => (((g ys.2).set i (some ⟨kHole pin q j (kLP pin' κ), xs⟩)).set r (some ⟨kLP (fun a => a = q ∧ pin' a) κ, ys.1⟩)))
    (hr : ∀ xs s, BJ B ((g s).set i (some ⟨kLP pin (kLP pin' κ), xs⟩)) rest (mr xs s) fin) (hfs : ∀ (X : Cx) x, foldedSetIterable (.Name n p) X.env x = pure x := by intro _ _; rfl) :
    BJ B G (.For (.Name n2 p2) (.Name n p) body [] pos :: rest) ((forB xs0 s0 mb).bind fun r => mr r.1 r.2) fin := fun X W ok tk => by
  refine pss_imp (pss_cons (ps_for ok.pass (ok.calm.trans hcalm) (pi_list (pe_var (i := i) (by rw [ok.N]; exact hi) (by rw [ok.sc]; exact hv) (nmOk_at ho hi).1 (nmOk_at ho hi).2)) (pg_name (i := r) (by rw [ok.N]; exact hN) (by rw [ok.N]; exact hri) (by rw [ok.sc]; exact hx) (Or.inl (ok.fn _)))
    (pss_ex fun pin => pss_ex fun q => pss_ex fun j => pss_ex fun x => pss_ex fun xs => pss_ex fun s => hb pin q j x xs s X W ok tk) (hfs X)) (pss_ex fun xs => pss_ex fun s => hr xs s X W ok tk)) fun D σ H ⟨f, xok, Hs, xss, env, q⟩ => ?_
  obtain ⟨p0, us0, e1, e2⟩ := own_var env hg
  refine ⟨_, e1, p0, rfl, ⟨us0, SqL.of e2⟩, ?_⟩
  obtain ⟨Hs2, e12, env2⟩ := env.wk w0
  have hg0 : ∀ s xs pn, ((g s).set i (some ⟨kLP pn (kLP pin' κ), xs⟩))[i]? = some (some ⟨kLP pn (kLP pin' κ), xs⟩) := fun s xs pn => List.getElem?_set_self (hgl s)
  have env3 := env2.repin (pn2 := fun a => a = p0 ∧ pin a) (hg0 s0 xs0 pin) (fun _ h => ⟨rfl, h⟩) e1
  rw [List.set_set] at env3
  -- the state ahead of turn k: what is done, what is left
  refine ⟨fun k m σ' H' => m = xs0.length - k ∧ ∃ (dn : List (List κ.ty.T)) (s : β) (Hs' : Hp), dn.length = k ∧ Env B.K f ((g s).set i (some ⟨kLP (fun a => a = p0 ∧ pin a) (kLP pin' κ), dn ++ xs0.drop k⟩)) [] σ' [] H' Hs' ∧
    ((forB (xs0.drop k) s mb).bind fun r => mr (dn ++ r.1) r.2).wp xok fun a => FinOk B.K f D (fin a), ⟨_, rfl, [], s0, Hs2, rfl, env3, q⟩, ?_⟩
  rintro k m σ1 H3 ⟨rfl, dn, s, Hs3, hdn, env4, q4⟩
  obtain ⟨p1, us1, SG, SD, Ss, f1, f2, f3, ⟨rfl, fpin⟩, f4, f5, fa, fb, fo⟩ := env4.own (E := none) (hg0 s _ _)
  have hlen := f4.len.2
  cases hk : xs0[k]? with
  | none =>
    have hle : xs0.length ≤ k := List.getElem?_eq_none_iff.mp hk
    rw [List.drop_of_length_le hle, List.append_nil] at env4
    rw [List.drop_of_length_le hle] at q4 hlen
    have q5 : (mr (dn ++ []) s).wp xok fun a => FinOk B.K f D (fin a) := q4
    rw [List.append_nil] at q5 hlen
    refine .inl ⟨⟨us1, SqL.of f2, by rw [hlen, hdn]; exact Nat.le_refl k⟩, dn, s, f, xok, Hs3, xss, ?_, q5⟩
    have := env4.repin (pn2 := pin) (hg0 s _ _) (fun _ h => h.2) f1
    rw [List.set_set] at this
    exact this
  | some x =>
    obtain ⟨hlt, hxe⟩ := List.getElem?_eq_some_iff.mp hk
    have hdrop : xs0.drop k = x :: xs0.drop (k + 1) := by rw [List.drop_eq_getElem_cons hlt, hxe]
    rw [hdrop] at q4
    have hxs : (dn ++ xs0.drop k)[k]? = some x := by
      rw [List.getElem?_append_right (by omega), hdn, Nat.sub_self, hdrop]; rfl
    obtain ⟨p2, us2, qq, g1, g2, g3, g4, env5⟩ := env4.borrow (hg0 s _ _) hxs
    rw [f1] at g1
    cases g1
    rw [f2] at g2
    cases g2
    rw [List.set_set] at env5
    refine .inr ⟨⟨us1, .ref qq, SqL.of f2, g4⟩, fun σ' H' => ∃ (dn : List (List κ.ty.T)) (s : β) (Hs' : Hp), dn.length = k + 1 ∧ Env B.K f ((g s).set i (some ⟨kLP (fun a => a = p1 ∧ pin a) (kLP pin' κ), dn ++ xs0.drop (k + 1)⟩)) [] σ' [] H' Hs' ∧
      ((forB (xs0.drop (k + 1)) s mb).bind fun r => mr (dn ++ r.1) r.2).wp xok fun a => FinOk B.K f D (fin a), fun σ' H' hN => ⟨_, by omega, rfl, hN⟩, fun v H4 hv => ?_⟩
    obtain ⟨rfl, hv2⟩ := hv
    have hv3 : v = .ref qq := Option.some.inj ((hv2 us1 (SqL.of f2)).symm.trans g4)
    subst hv3
    refine ⟨fun a => a = p1 ∧ pin a, qq, k, x, dn ++ xs0.drop k, s, f, xok, Hs3, xss, env5.store r, ?_⟩
    refine Res.wp_mono (Res.wp_bind.mp (Res.wp_bind.mp (show (((mb x s).bind fun r => (forB (xs0.drop (k + 1)) r.2 mb).bind fun q => .ok (r.1 :: q.1, q.2)).bind fun r => mr (dn ++ r.1) r.2).wp xok _ from q4))) fun ys k5 => ?_
    show ∀ σ H Hs, _ → _
    intro σ6 H6 Hs6 env6
    obtain ⟨v7, _, env7⟩ := env6.move (i := r) (List.getElem?_set_self (by rw [List.length_set]; exact hrl ys.2))
    rw [List.set_set, hgr] at env7
    have env8 := env7.fill (i := i) (List.getElem?_set_self (hgl ys.2)) (fun a h => h)
    rw [List.set_set] at env8
    have e9 : (dn ++ xs0.drop k).set k ys.1 = (dn ++ [ys.1]) ++ xs0.drop (k + 1) := by
      rw [hdrop, List.set_append_right _ _ (by omega), hdn, Nat.sub_self, List.set_cons_zero, List.append_assoc]; rfl
    rw [e9] at env8
    refine ⟨dn ++ [ys.1], ys.2, Hs6, by rw [List.length_append, hdn]; rfl, env8, ?_⟩
    refine Res.wp_bind.mpr (Res.wp_mono (Res.wp_bind.mp k5) fun z k6 => ?_)
    have e10 : dn ++ ys.1 :: z.1 = (dn ++ [ys.1]) ++ z.1 := by rw [List.append_assoc]; rfl
    have k7 : (mr (dn ++ ys.1 :: z.1) z.2).wp xok fun a => FinOk B.K f D (fin a) := k6
    rw [e10] at k7
    exact k7
end
end TM

set_option Elab.async false
set_option linter.all false
set_option maxRecDepth 100000
/-! TM24: list comprehensions whose items change things. -/
namespace TM
open PySem L2
/-- [y x for x in xs], the state passed on -/
def lcE {α β γ δ : Type} (xs : List α) (s : β) (me : α → β → Res γ) (y : α → β → γ → δ) (nx : α → β → γ → β) : Res (List δ × β) := match xs with
  | [] => .ok ([], s)
  | x :: xs => (me x s).calm.bind fun b => (lcE xs (nx x s b) me y nx).bind fun r => .ok (y x s b :: r.1, r.2)
section
variable {K : Fg} {f : Fr} {G D : List Slot} {σ σ' : St} {vs : List V} {H Hs : Hp}
theorem sls_resigma : ∀ {G : List Slot} {SG : List (List Addr)} {σ σ' : List (Option V)}, Sls K H Hs SG σ G → σ'.length = σ.length → (∀ i : Nat, G[i]? ≠ some (none : Slot) → σ'[i]? = σ[i]?) → Sls K H Hs SG σ' G
  | [], [], [], [], _, _, _ => trivial
  | g :: G, S :: SG, v :: σ, v' :: σ', a, hl, h => by
    refine ⟨?_, sls_resigma a.2 (by simpa using hl) fun i hi => by simpa using h (i + 1) (by simpa using hi)⟩
    cases g with
    | none => exact a.1
    | some p =>
      have : v' = v := by simpa using h 0 (by simp)
      rw [this]; exact a.1
  | [], [], [], _ :: _, _, hl, _ => by simp at hl
  | [], [], _ :: _, _, a, _, _ => a.elim
  | [], _ :: _, [], _, a, _, _ => a.elim
  | [], _ :: _, _ :: _, _, a, _, _ => a.elim
  | _ :: _, [], [], _, a, _, _ => a.elim
  | _ :: _, [], _ :: _, _, a, _, _ => a.elim
  | _ :: _, _ :: _, [], _, a, _, _ => a.elim
  | _ :: _, _ :: _, _ :: _, [], _, hl, _ => by simp at hl
theorem Env.resigma (h : Env K f G D σ vs H Hs) (hl : σ'.length = σ.length) (k : ∀ i : Nat, G[i]? ≠ some (none : Slot) → σ'[i]? = σ[i]?) : Env K f G D σ' vs H Hs := by
  obtain ⟨SG, SD, a, b, o⟩ := h
  exact ⟨SG, SD, sls_resigma a hl k, b, o⟩
theorem wipe_get {i : Nat} : ∀ {vs : List Nat}, i ∉ vs → (wipe σ vs)[i]? = σ[i]?
  | [], _ => rfl
  | v :: vs, h => by
    show ((wipe σ vs).set v none)[i]? = _
    rw [List.getElem?_set_ne fun e => h (by rw [e]; exact List.mem_cons_self)]
    exact wipe_get fun m => h (List.mem_cons_of_mem _ m)
theorem Env.unwipe {ws : List Nat} (h : Env K f G D σ vs H Hs) (hn : ∀ j ∈ ws, G[j]? = some none) (e : wipe σ' ws = wipe σ ws) : Env K f G D σ' vs H Hs := by
  refine h.resigma ?_ fun i hi => ?_
  · have := congrArg List.length e
    rw [wipe_length, wipe_length] at this
    exact this
  · have hm : i ∉ ws := fun m => hi (hn i m)
    rw [← wipe_get (σ := σ') hm, e, wipe_get hm]
/-- a new list of one's own, put aside -/
theorem Env.pushNew {κ : Kd} {p : Addr} (h : Env K f G D σ vs H Hs) (hp : H p = none) : Env K f G (some ⟨kL κ, []⟩ :: D) σ (.ref p :: vs) (upd H p (.lst [])) Hs :=
  h.push (S := [p]) (Grow.newOwn h.view hp trivial) ⟨p, [], [], rfl, trivial, upd_same, Nat.zero_le _, rfl, trivial⟩ (fresh_one h.view hp trivial)
/-- an item goes behind the list put aside -/
theorem Env.appendD {κ : Kd} {p : Addr} {v : V} {y : κ.ty.T} {ys : List κ.ty.T} (h : Env K f G (some ⟨κ, y⟩ :: some ⟨kL κ, ys⟩ :: D) σ (v :: .ref p :: vs) H Hs) (hl : ys.length < sizeLine) :
    ∃ us, H p = some (.lst us) ∧ us.length = ys.length ∧ Env K f G (some ⟨kL κ, ys ++ [y]⟩ :: D) σ (.ref p :: vs) (upd H p (.lst (us ++ [v]))) Hs := by
  obtain ⟨SG, SD, a, b, o⟩ := h
  match SD, b with
  | S :: S2 :: SD, ⟨⟨v1, e1, r1⟩, ⟨v2, e2, p2, us, Ss, e3, _, h2, h3, e4, h5⟩, b3⟩ =>
    cases e1
    cases e2
    cases e3
    subst e4
    have nd := nodup_count.mp o.nodup
    have ndp := nd p
    simp only [List.flatten_cons, List.count_append, List.count_cons_self] at ndp
    have npS : p ∉ S := fun m => by have := mem_count.mp m; omega
    have npSs : p ∉ Ss.flatten := fun m => by have := mem_count.mp m; omega
    have npD : p ∉ SD.flatten := fun m => by have := mem_count.mp m; omega
    have npG : p ∉ SG.flatten := fun m => by have := mem_count.mp m; omega
    refine ⟨us, h2, h5.len.2, SG, (p :: (Ss ++ [S]).flatten) :: SD, sls_off a npG, ⟨⟨_, rfl, p, us ++ [v], Ss ++ [S], rfl, trivial, upd_same, by rw [List.length_append]; exact hl, rfl, ?_⟩, sls_off b3 npD⟩, ?_⟩
    · exact (els_off h5 npSs).append ⟨κ.keep r1 (fun c hc ob e => by rw [upd_off npS hc]; exact e) (Same.refl _), trivial⟩
    · have hcnt : ∀ c, List.count c (((p :: (Ss ++ [S]).flatten) :: SD).flatten ++ SG.flatten) ≤ List.count c ((S :: (p :: Ss.flatten) :: SD).flatten ++ SG.flatten) := fun c => by
        simp only [List.flatten_cons, List.flatten_append, List.flatten_nil, List.append_nil, List.count_append, List.count_cons]
        omega
      exact (o.write (p := p) (o := .lst (us ++ [v])) (List.mem_append_left _ (by simp)) trivial).less (nodup_count.mpr fun c => Nat.le_trans (hcnt c) (nd c)) fun c m => mem_count.mpr (Nat.lt_of_lt_of_le (mem_count.mp m) (hcnt c))
end
/-- how the items of a walk are stored, for a state that owns -/
def BindOk {α : Type} (bind : α → List Slot → List Slot) (ixs : List Nat) : Prop := ∀ {K : Fg} {f : Fr} {G D : List Slot} {σ σ' : St} {vs : List V} {H Hs : Hp} (x : α), Env K f G D σ vs H Hs → VEnv K Hs (bind x (stab G)) σ' → (∀ ws : List Nat, (∀ j ∈ ixs, j ∈ ws) → wipe σ' ws = wipe σ ws) → (∀ j ∈ ixs, G[j]? = some none) → Env K f (bind x G) D σ' vs H Hs
theorem set_eq_of_wipe {σ σ' : St} {i : Nat} {v : Option V} (h : wipe σ' [i] = wipe σ [i]) (e : σ'[i]? = some v) : σ' = σ.set i v := by
  have h' : σ'.set i none = σ.set i none := h
  have h2 := congrArg (fun l => List.set l i v) h'
  simp only [List.set_set] at h2
  obtain ⟨hl, e2⟩ := List.getElem?_eq_some_iff.mp e
  rw [← h2, ← e2, List.set_getElem_self]
theorem Env.storeVal2 {K : Fg} {f : Fr} {G D : List Slot} {σ : St} {vs : List V} {H Hs : Hp} {τ : Ty} {x : τ.T} {v : V} (i : Nat) (h : Env K f G D σ vs H Hs) (r : τ.rep K Hs v x) : Env K f (G.set i (sv τ x)) D (σ.set i (some v)) vs H Hs :=
  (h.push (S := []) (Grow.refl h.view) (κ := kVal τ) ⟨rfl, r⟩ fresh_nil).store i
theorem bindOk1 {i : Nat} {τ : Ty} : BindOk (bind1 i τ) [i] := fun {K f G D σ σ' vs H Hs} x env ve hw hn => by
  have hi : i < (stab G).length := by
    have := (List.getElem?_eq_some_iff.mp (hn i List.mem_cons_self)).1
    unfold stab; rw [List.length_map]; exact this
  obtain ⟨v, e1, r⟩ := ve.get i ⟨kVal τ, x⟩ (List.getElem?_set_self hi)
  rw [set_eq_of_wipe (hw [i] fun j h => h) e1]
  exact env.storeVal2 i r
theorem bindOk2 {i j : Nat} {τ υ : Ty} (hij : i ≠ j) : BindOk (bind2 i j τ υ) [i, j] := fun {K f G D σ σ' vs H Hs} x env ve hw hn => by
  have hi : i < (stab G).length := by
    have := (List.getElem?_eq_some_iff.mp (hn i List.mem_cons_self)).1
    unfold stab; rw [List.length_map]; exact this
  have hj : j < (stab G).length := by
    have := (List.getElem?_eq_some_iff.mp (hn j (List.mem_cons_of_mem _ List.mem_cons_self))).1
    unfold stab; rw [List.length_map]; exact this
  obtain ⟨v, e1, r1⟩ := ve.get i ⟨kVal τ, x.1⟩ (by
    show (((stab G).set i _).set j _)[i]? = _
    rw [List.getElem?_set_ne (Ne.symm hij), List.getElem?_set_self hi])
  obtain ⟨w, e2, r2⟩ := ve.get j ⟨kVal υ, x.2⟩ (by
    show (((stab G).set i _).set j _)[j]? = _
    rw [List.getElem?_set_self (by rw [List.length_set]; exact hj)])
  have h0 : (σ'.set j none).set i none = (σ.set j none).set i none := hw [i, j] fun k h => h
  have h3 : σ' = (σ.set i (some v)).set j (some w) := by
    have h2 := congrArg (fun l => (List.set l i (some v)).set j (some w)) h0
    simp only [List.set_set] at h2
    rw [List.set_comm _ _ (Ne.symm hij), List.set_set, List.set_comm _ _ (Ne.symm hij), List.set_set] at h2
    obtain ⟨hl, e⟩ := List.getElem?_eq_some_iff.mp e1
    obtain ⟨hl2, e'⟩ := List.getElem?_eq_some_iff.mp e2
    rw [← h2, ← e, List.set_getElem_self, ← e', List.set_getElem_self]
  rw [h3]
  exact (env.storeVal2 i r1).storeVal2 j r2
section
variable {B : Bd} {G : List Slot} {elt tg iter : Expr} {scope : Scope} {κ : Kd} {pos py spos : Pos} {n : Str} {rest : List Stmt} {α β γ δ : Type} {bind : α → List Slot → List Slot} {ixs : List Nat} {mi : Res (List α)} {fin : δ → Fin}
/-- the parts of such a comprehension and what they say -/
def ELcJ (B : Bd) (G : List Slot) (elt tg iter : Expr) (scope : Scope) (κ : Kd) (m : Res (List κ.ty.T × β)) (g : β → List Slot) : Prop := ∃ (wi : WX → TI) (gt : TG) (te : TE) (own : List (Str × Nat)), (∀ X W, CxOk B X → Takes X W → PI X tg iter (wi W) ∧ BlkOk X.N X.env.scope scope own ∧
    (∀ (s : Shared) (H : Hp) (C : Addr) (cl : List (Str × Addr)) (fp : List Addr), PG (X.blk s H scope (compEnvC scope cl C X.env) fp) tg gt ∧ PE (X.blk s H scope (compEnvC scope cl C X.env) fp) elt te)) ∧
  ∀ (W : WX) (f : Fr) (xok : Exc → Prop) (D : List Slot) (vs : List V) (σ : St) (H Hs : Hp) (Q : VK), XS B f xok W → Env B.K f G D σ vs H Hs → (m.wp xok fun r => ∀ v H' Hs', Env B.K f (g r.2) (some ⟨kL κ, r.1⟩ :: D) σ (v :: vs) H' Hs' → Q v H') → tLc (wi W) gt tYes te (own.map (·.2)) σ H Q
theorem elcj (own : List (Str × Nat)) {g : β → List Slot} (s0 : β) {me : α → β → Res γ} {G2 : α → β → γ → List Slot} {y : α → β → γ → κ.ty.T} {nx : α → β → γ → β} (hb : blkC B.N B.sc scope own = true) (hi : PIJ B (lcB B scope) scope (stab G) tg iter mi bind ixs) (hbd : BindOk bind ixs) (hx : ∀ j ∈ ixs, j ∈ own.map (·.2))
    (he : ∀ x s, EJ (lcB B scope) (bind x (g s)) elt (me x s) (G2 x s) κ (y x s)) (w0 : Wk G (g s0)) (hn : ∀ s, ∀ j ∈ own.map (·.2), (g s)[j]? = some none) (hw : ∀ x s b, Wk (G2 x s b) (g (nx x s b))) :
    ELcJ B G elt tg iter scope κ (mi.bind fun xs => lcE xs s0 me y nx) g := by
  obtain ⟨wi, gt, i1, i2, i3⟩ := hi
  refine ⟨wi, gt, fun σ H Q => ∃ x s, ∃ f xok D vs Hs, XS (lcB B scope) f xok W0 ∧ Env B.K f (bind x (g s)) D σ vs H Hs ∧ (me x s).wp xok fun b => ∀ v H' Hs', Env B.K f (G2 x s b) (some ⟨κ, y x s b⟩ :: D) σ (v :: vs) H' Hs' → Q v H', own,
    fun X W ok tk => ⟨i1 X W ok tk, by rw [ok.N, ok.sc]; exact blkOk_by hb, fun s H C cl fp => ⟨i2 _ (blk_ok ok s H scope C cl fp) fun x => rfl, pe_ex fun x => pe_ex fun s' => he x s' _ W0 (blk_ok ok s H scope C cl fp) takes0⟩⟩, ?_⟩
  intro W f xok D vs σ H Hs Q xs env q
  refine i3 W xok σ H Hs _ env.view env.vstab (xs.xw env) (Res.wp_mono (Res.wp_bind.mp q) fun ys q1 J H1 Hs1 g1 hsz it Dp hD => ?_)
  obtain ⟨Hs2, e12, env2⟩ := (env.grown g1).wk w0
  have hws : wipe σ (own.map (·.2)) = wipe (wipe σ (own.map (·.2))) (own.map (·.2)) := (wipe_wipe σ _).symm
  have env3 : Env B.K f (g s0) D (wipe σ (own.map (·.2))) vs H1 Hs2 := env2.unwipe (hn s0) (wipe_wipe σ _)
  refine ⟨fun i m H2 => m = ys.length - i ∧ i ≤ ys.length ∧ ∃ (zs : List κ.ty.T) (s : β) (Hs3 : Hp), zs.length ≤ i ∧ Env B.K { f with V0 := Hs2 } (g s) (some ⟨kL κ, zs⟩ :: D) (wipe σ (own.map (·.2))) (.ref Dp :: vs) H2 Hs3 ∧
    (lcE (ys.drop i) s me y nx).wp xok fun r => ∀ v H' Hs', Env B.K f (g r.2) (some ⟨kL κ, zs ++ r.1⟩ :: D) σ (v :: vs) H' Hs' → Q v H', ⟨_, rfl, Nat.zero_le _, [], s0, Hs2, Nat.zero_le _, (Env.reframe env3).pushNew hD, by simpa using q1⟩, ?_⟩
  rintro i m H2 ⟨rfl, hi', zs, s, Hs3, hz, env4, q2⟩
  have it2 := it H2 Hs3 (wipe σ (own.map (·.2))) (stab (g s)) env4.view env4.vstab (e12.trans env4.seen) i
  cases hxi : ys[i]? with
  | none =>
    have hle : ys.length ≤ i := List.getElem?_eq_none_iff.mp hxi
    rw [List.drop_of_length_le hle] at q2
    refine .inl ⟨it2.2 hxi, ?_⟩
    have q3 : ∀ v H' Hs', Env B.K f (g s) (some ⟨kL κ, zs ++ []⟩ :: D) σ (v :: vs) H' Hs' → Q v H' := q2
    rw [List.append_nil] at q3
    exact q3 _ _ Hs3 (Env.unframe env2 (env4.unwipe (hn s) (wipe_wipe σ _).symm))
  | some x =>
    obtain ⟨hlt, hxe⟩ := List.getElem?_eq_some_iff.mp hxi
    obtain ⟨hgo, hy⟩ := it2.1 x hxi
    refine .inr ⟨hgo, fun H2 => ∃ (zs : List κ.ty.T) (s : β) (Hs3 : Hp), zs.length ≤ i + 1 ∧ Env B.K { f with V0 := Hs2 } (g s) (some ⟨kL κ, zs⟩ :: D) (wipe σ (own.map (·.2))) (.ref Dp :: vs) H2 Hs3 ∧
      (lcE (ys.drop (i + 1)) s me y nx).wp xok fun r => ∀ v H' Hs', Env B.K f (g r.2) (some ⟨kL κ, zs ++ r.1⟩ :: D) σ (v :: vs) H' Hs' → Q v H', fun H' hN => ⟨_, by omega, rfl, hlt, hN⟩, fun u H3 hu => ?_⟩
    refine hy u H3 hu _ fun σ4 H4 Hs4 g4 ve4 hw4 => ?_
    have hwo : wipe σ4 (own.map (·.2)) = wipe σ (own.map (·.2)) := (hw4 _ hx).trans (wipe_wipe σ _)
    refine ⟨hwo, ?_⟩
    show (∃ x s, _)
    have env5 := hbd x (env4.grown g4) ve4 hw4 fun j hj => hn s j (hx j hj)
    refine ⟨x, s, { f with V0 := Hs2 }, fun _ => False, _, _, Hs4, fun _ z => z.elim, env5, ?_⟩
    rw [List.drop_eq_getElem_cons hlt, hxe] at q2
    refine Res.wp_mono (Res.wp_calm (Res.wp_bind.mp (show ((me x s).calm.bind fun b => (lcE (ys.drop (i + 1)) (nx x s b) me y nx).bind fun r => .ok (y x s b :: r.1, r.2)).wp xok _ from q2))) fun b q3 v H5 Hs5 env6 => ?_
    obtain ⟨us, h1, h2, env7⟩ := env6.appendD (Nat.lt_of_le_of_lt hz (Nat.lt_of_lt_of_le hlt hsz))
    refine ⟨us, h1, by rw [h2]; exact Nat.lt_of_le_of_lt hz (Nat.lt_of_lt_of_le hlt hsz), zs ++ [y x s b], nx x s b, ?_⟩
    obtain ⟨Hs6, e6, env8⟩ := env7.wk (hw x s b)
    refine ⟨Hs6, by rw [List.length_append]; exact Nat.succ_le_succ hz, env8.unwipe (hn _) ((wipe_wipe σ _).trans hwo.symm), ?_⟩
    · refine Res.wp_mono (Res.wp_bind.mp q3) fun r k v' H' Hs' env' => ?_
      have e10 : zs ++ y x s b :: r.1 = (zs ++ [y x s b]) ++ r.1 := by rw [List.append_assoc]; rfl
      refine k v' H' Hs' ?_
      show Env B.K f (g r.2) (some ⟨kL κ, zs ++ y x s b :: r.1⟩ :: D) σ (v' :: vs) H' Hs'
      rw [e10]
      exact env'
theorem ej_elc {m : Res (List κ.ty.T × β)} {g : β → List Slot} (hN : B.N.Nodup) (hc : B.calm = true) (h : ELcJ B G elt tg iter scope κ m g) (hs : ∀ env x, foldedSetIterable iter env x = pure x := by intro _ _; rfl) :
    EJ B G (.ListComp elt [⟨tg, iter, [], 0⟩] scope pos) m (fun r => g r.2) (kL κ) fun r => r.1 := fun X W ok tk => by
  obtain ⟨wi, gt, te, own, h1, h2⟩ := h
  obtain ⟨p1, p2, p3⟩ := h1 X W ok tk
  refine pe_imp (pe_lc (ok.calm.trans hc) (by rw [ok.N]; exact hN) p1 p2 (fun s H C cl fp => (p3 s H C cl fp).1) (fun s H C cl fp => pts_nil) (fun s H C cl fp => (p3 s H C cl fp).2) (hs X.env)) fun σ H Q ⟨f, xok, D, vs, Hs, xs, env, q⟩ => ?_
  exact h2 W f xok D vs σ H Hs Q xs env q
theorem bj_setELc (i : Nat) {m : Res (List κ.ty.T × β)} {g : β → List Slot} {m2 : List κ.ty.T × β → Res δ} (hN : B.N.Nodup) (hc : B.calm = true) (hi : B.N[i]? = some n) (hk : B.sc.kind = .function) (hx : B.sc.names.lookup n = some .local) (hl : (py.line == pos.line) = true)
    (ha : (scope.names.any fun (z, k) => z == n && (k == .local || k == .cell)) = false) (h : ELcJ B G elt tg iter scope κ m g)
    (hr : ∀ r, BJ B ((g r.2).set i (some ⟨kL κ, r.1⟩)) rest (m2 r) fin) (hs : ∀ env x, foldedSetIterable iter env x = pure x := by intro _ _; rfl) : BJ B G (.Assign [.Name n py] (.ListComp elt [⟨tg, iter, [], 0⟩] scope pos) spos :: rest) (m.bind m2) fin := fun X W ok tk => by
  obtain ⟨wi, gt, te, own, h1, h2⟩ := h
  obtain ⟨p1, p2, p3⟩ := h1 X W ok.toCxOk tk
  refine pss_imp (pss_cons (ps_setLc (ok.calm.trans hc) (by rw [ok.N]; exact hN) (by rw [ok.N]; exact hi) (by rw [ok.sc]; exact hx) (sw_true (by rw [ok.sc]; exact hk) (by rw [ok.sc]; exact hx) hl ha) p1 p2 (fun s H C cl fp => (p3 s H C cl fp).1) (fun s H C cl fp => pts_nil) (fun s H C cl fp => (p3 s H C cl fp).2) (hs X.env)) (pss_ex fun r => hr r X W ok tk)) fun D σ H ⟨f, xok, Hs, xss, env, q⟩ => ?_
  unfold L2.tSeq tAsg gName
  refine h2 W f xok [] [] σ H Hs _ xss env (Res.wp_mono (Res.wp_bind.mp q) fun r k v H' Hs' env' => ?_)
  exact ⟨r, f, xok, Hs', xss, env'.store i, k⟩
end
end TM

set_option Elab.async false
set_option linter.all false
set_option maxRecDepth 100000
/-! TL3: several except clauses, some with a name (an addition to the library's rules). -/
namespace L2
open PySem PySem.Spec PyProof.Rows
abbrev Cl3 := Value × Option Nat × (Addr → Value → Option Addr → TS)
def wMany3 (K : PySem.W.Frag) (Wout : WX) (D : Ends) : List Cl3 → WX
  | [] => Wout
  | (c, oi, ts) :: r => fun cls d σ H => ∃ b, PySem.W.exmOne K cls c = some b ∧ (b = true → ∀ a, H a = none → match oi with
      | none => ts a cls d D σ H
      | some i => ts a cls d { nx := fun σ' H' => D.nx (σ'.set i none) H', rt := D.rt, bk := fun σ' H' => D.bk (σ'.set i none) H', ct := fun σ' H' => D.ct (σ'.set i none) H' } (σ.set i (some (.ref a))) H) ∧ (b = false → wMany3 K Wout D r cls d σ H)
inductive HdsOk3 (X : Cx) : List ExceptHandler → List Cl3 → Prop
  | nil : HdsOk3 X [] []
  | cons {x : Str} {c : Value} {ts : Addr → Value → Option Addr → TS} {b₀ : Stmt} {suite : List Stmt} {np pos' : Pos} {hds : List ExceptHandler} {l : List Cl3} (hc : Names X x c)
      (hsu : ∀ (a : Addr) (oe : Obj) (cls : Value) (d : Option Addr) (pn : List (Addr × Obj)), Zc cls d oe → (∃ vs, oe.data = .fields vs) → PSs (X.suite a ((a, oe) :: pn)) (b₀ :: suite) (ts a cls d)) (r : HdsOk3 X hds l) :
      HdsOk3 X (.ExceptHandler (some (.Name x np)) none (b₀ :: suite) pos' :: hds) ((c, none, ts) :: l)
  | named {x n : Str} {i : Nat} {c : Value} {ts : Addr → Value → Option Addr → TS} {b₀ : Stmt} {suite : List Stmt} {np pos' : Pos} {hds : List ExceptHandler} {l : List Cl3} (hN : X.N.Nodup) (hi : X.N[i]? = some n) (hln : X.env.kindOf n = some .local) (hc : Names X x c)
      (hsu : ∀ (a : Addr) (oe : Obj) (cls : Value) (d : Option Addr) (pn : List (Addr × Obj)), Zc cls d oe → (∃ vs, oe.data = .fields vs) → PSs (X.suite a ((a, oe) :: pn)) (b₀ :: suite) (ts a cls d)) (r : HdsOk3 X hds l) :
      HdsOk3 X (.ExceptHandler (some (.Name x np)) (some n) (b₀ :: suite) pos' :: hds) ((c, some i, ts) :: l)
section
variable {X : Cx} {body : List Stmt} {h₀ : ExceptHandler} {hds : List ExceptHandler} {l : List Cl3} {pos : Pos} {tb : WX → TS} {Wout : WX}
theorem ps_try3 (hs : X.stack = X.env :: X.outer) (hf : X.env.frame = some X.env.locals) (tk : Takes X Wout)
    (hb : ∀ (W : WX) (pn : List (Addr × Obj)) (xe : Value → Shared → Prop), Takes (X.tr pn xe) W → PassesOwn (model X.prog X.w) X.A X.env xe → PSs (X.tr pn xe) body (tb W))
    (hh : HdsOk3 X (h₀ :: hds) l) : PS X (.Try body (h₀ :: hds) [] [] pos) (fun D σ H => tb (wMany3 X.K Wout D l) D σ H) := by
  refine ⟨fun pins s σ H D I h => ?_⟩
  have ok := I.ok
  have hfr : X.A.frames = some (X.env :: X.outer) := by rw [ok.frames, hs]
  refine wpAny_Try_except ?_
  refine wpAny_mono ((hb (wMany3 X.K Wout D l) (X.pn ++ pins) (fun e s₁ => wpAny (model X.prog X.w) X.A (noteFrame e X.env) (fun _ s₂ => wpAny (model X.prog X.w) X.A (setFlight e none) (fun _ s₃ =>
    wpAny (model X.prog X.w) X.A (handleBy e X.env (h₀ :: hds)) (SP X pins D) X.xe s₃) X.xe s₂) X.xe s₁) (fun u s' xx => ?_) PassesOwn.looking).run [] s σ H D (I.toTry _) h) (fun f s1 hsp => ?_) (fun e s1 he => he)
  · -- the catch
    obtain ⟨a, B, sI, pins', σ', H', cls, d, rfl, J', nb, up, sky, na, os, ag, w⟩ := xx
    have J : Inv X pins σ' H' sI := J'.ofTry ok
    have sky' : Sky B (X.env :: X.outer) a (Zc cls d) X.env.locals s'.heap := by rw [← hs]; exact sky
    show wpAny (model X.prog X.w) X.A (noteFrame (.ref a) X.env) _ _ _
    refine Sky.land Zc.steady hfr hf sky' fun h3 fl3 up3 => ?_
    have J3 : Inv X pins σ' H' { s' with heap := h3 } := J.landed nb fl3.1 (up.trans up3) os ag
    obtain ⟨oe3, vs3, he3, hz3, hd3⟩ := fl3.there
    have notFr : ∀ {h : Heap} {o : Obj} {vs : Array Value}, h.FunFrames B (X.env :: X.outer) → h.get? a = some o → o.data = .fields vs → a ∉ frs (X.env :: X.outer) := fun {h o vs} ff e dd hm => by
      obtain ⟨_, o', e', hnf⟩ := ff.mem hm
      rw [e] at e'; cases e'
      exact hnf _ dd
    have nfr := notFr fl3.2.2.1 he3 hd3
    have nL : a ≠ X.env.locals := fun z => nfr (List.mem_filterMap.mpr ⟨X.env, List.mem_cons_self, by rw [hf, z]⟩)
    have nF : a ∉ X.fs := fun hm => by
      obtain ⟨e, he, q⟩ := List.mem_filterMap.mp hm
      exact nfr (List.mem_filterMap.mpr ⟨e, List.mem_cons_of_mem _ he, q⟩)
    have S3 := J3.suite he3 hd3 na nL nF
    have go : ∀ {hds' : List ExceptHandler} {l' : List Cl3}, HdsOk3 X hds' l' → wMany3 X.K Wout D l' cls d σ' H' →
        wpAny (model X.prog X.w) X.A (handleBy (.ref a) X.env hds') (SP X pins D) X.xe { s' with heap := h3 } := by
      intro hds' l' hk
      induction hk with
      | nil =>
        intro w
        refine wpAny_handleBy_nil ?_
        obtain ⟨k1, k2, k3, oe, vs, T, oT, ts', he, hz, hd, h1, hr⟩ := id fl3
        unfold PySem.passOn
        refine wpAny_bind (wpAny_field he hd h1 ?_)
        rw [if_neg (show ¬ ((Value.ref T == Value.none) = true) from by simp)]
        have fin : wpAny (model X.prog X.w) X.A (setFlight (.ref a) X.env.frame) (fun _ s4 => wpAny (model X.prog X.w) X.A (throw (.ref a) : Sem Flow) (SP X pins D) X.xe s4) X.xe { s' with heap := h3 } := by
          rw [hf]
          refine HandSPX.setFlight_upZ fl3 fun h4 hh4 up4 => wpAny_throw (tk _ _ ?_)
          exact ⟨a, B, sI, pins, σ', H', cls, d, rfl, J, nb, (up.trans up3).trans up4, .inr (.inr (by rw [hs]; exact hh4)), na, os, ag, w⟩
        first
          | exact wpAny_bind (wpAny_pure (wpAny_bind fin))
          | exact wpAny_bind fin
      | @cons x c ts b₀ suite np pos' hds2 l2 hc hsu r ih =>
        intro w
        obtain ⟨b, hb1, hyes, hno⟩ := w
        refine wpAny_handleBy_cons (codeAny_handlers_test ?_) (by intro q; cases q)
        have LT : PySem.W.Looks (model X.prog X.w) h3 (typeOf (.ref a)) cls := fun A Q E s k q => wpAny_typeOf_ref (k _ _ he3) (by rw [hz3.1]; exact q)
        have LM := PySem.W.exm_one (M := model X.prog X.w) (J3.kIn) LT hb1
        have test : ∀ {Q : Value → Shared → Prop} {E : Value → Shared → Prop}, Q c { s' with heap := h3 } → wpAny (model X.prog X.w) (X.A.mark (some (.ref a))) (eval (.Name x np) X.env) Q E { s' with heap := h3 } := fun {Q E} q => by
          obtain ⟨hg, hdbg, hm | ⟨hm, hv, hnn⟩⟩ := hc
          · exact ld_glob (X := X.suite a ((a, oe3) :: (X.pn ++ pins))) S3 hg hm q hdbg
          · exact ld_blt (X := X.suite a ((a, oe3) :: (X.pn ++ pins))) S3 hg hm hv q hnn hdbg
        refine test (LM.here ?_)
        cases b with
        | true =>
          refine codeAny_handlers_suite ?_
          refine HandSPX.lands_againZ fl3 fun h4 fl4 up4 => ?_
          have J4 : Inv X pins σ' H' { s' with heap := h4 } := J.landed nb fl4.1 ((up.trans up3).trans up4) os ag
          obtain ⟨oe4, vs4, he4, hz4, hd4⟩ := fl4.there
          have S4 := J4.suite he4 hd4 na nL nF
          refine wpAny_mono ((hsu a oe4 cls d (X.pn ++ pins) hz4 ⟨_, hd4⟩).run [] _ _ H' _ S4 (hyes rfl a na)) (fun f s6 hsp => ?_) (fun _ _ z => False.elim z)
          cases f with
          | next =>
            obtain ⟨σ6, H6, S6, q6⟩ := hsp
            exact ⟨_, _, S6.unsuite ok, q6⟩
          | brk =>
            obtain ⟨σ6, H6, S6, q6⟩ := hsp
            exact ⟨_, _, S6.unsuite ok, q6⟩
          | cont =>
            obtain ⟨σ6, H6, S6, q6⟩ := hsp
            exact ⟨_, _, S6.unsuite ok, q6⟩
          | ret u =>
            obtain ⟨v6, σ6, H6, S6, r6, q6⟩ := hsp
            exact ⟨_, _, _, S6.unsuite ok, r6, q6⟩
        | false =>
          show wpAny _ X.A (handleBy (.ref a) X.env hds2) _ _ _
          exact ih (hno rfl)
      | @named x n i c ts b₀ suite np pos' hds2 l2 hN hi hln hc hsu r ih =>
        intro w
        obtain ⟨b, hb1, hyes, hno⟩ := w
        refine wpAny_handleBy_cons (codeAny_handlers_test ?_) (by intro q; cases q)
        have LT : PySem.W.Looks (model X.prog X.w) h3 (typeOf (.ref a)) cls := fun A Q E s k q => wpAny_typeOf_ref (k _ _ he3) (by rw [hz3.1]; exact q)
        have LM := PySem.W.exm_one (M := model X.prog X.w) (J3.kIn) LT hb1
        have test : ∀ {Q : Value → Shared → Prop} {E : Value → Shared → Prop}, Q c { s' with heap := h3 } → wpAny (model X.prog X.w) (X.A.mark (some (.ref a))) (eval (.Name x np) X.env) Q E { s' with heap := h3 } := fun {Q E} q => by
          obtain ⟨hg, hdbg, hm | ⟨hm, hv, hnn⟩⟩ := hc
          · exact ld_glob (X := X.suite a ((a, oe3) :: (X.pn ++ pins))) S3 hg hm q hdbg
          · exact ld_blt (X := X.suite a ((a, oe3) :: (X.pn ++ pins))) S3 hg hm hv q hnn hdbg
        refine test (LM.here ?_)
        cases b with
        | true =>
          refine codeAny_handlers_suite_as ?_
          refine HandSPX.lands_againZ fl3 fun h4 fl4 up4 => ?_
          have J4 : Inv X pins σ' H' { s' with heap := h4 } := J.landed nb fl4.1 ((up.trans up3).trans up4) os ag
          obtain ⟨oe4, vs4, he4, hz4, hd4⟩ := fl4.there
          have S4 := J4.suite he4 hd4 na nL nF
          have hloc : Loc X.env.scope n := .inl hln
          refine store_ok (X := X.suite a ((a, oe4) :: (X.pn ++ pins))) (v := .ref a) S4 hN hi hloc rfl (fun s5 S5 => ?_) (.inr hln)
          refine wpAny_mono ((hsu a oe4 cls d (X.pn ++ pins) hz4 ⟨_, hd4⟩).run [] s5 _ H' _ S5 (hyes rfl a na)) (fun f s6 hsp => ?_) (fun _ _ z => False.elim z)
          have end_ : ∀ {σ6 : St} {H6 : Hp} {Q : Shared → Prop}, Inv (X.suite a ((a, oe4) :: (X.pn ++ pins))) [] σ6 H6 s6 → (∀ s7, Inv X pins (σ6.set i none) H6 s7 → Q s7) →
              wpAny (model X.prog X.w) X.A (do bindName X.env n .none; unbindBehindTheSuite X.env n pos') (fun _ s7 => Q s7) X.xe s6 := fun {σ6 H6 Q} S6 hq => gone_ok (S6.unsuite ok) hN hi hln hq
          cases f with
          | next =>
            obtain ⟨σ6, H6, S6, q6⟩ := hsp
            exact end_ S6 fun s7 J7 => ⟨_, _, J7, q6⟩
          | brk =>
            obtain ⟨σ6, H6, S6, q6⟩ := hsp
            exact end_ S6 fun s7 J7 => ⟨_, _, J7, q6⟩
          | cont =>
            obtain ⟨σ6, H6, S6, q6⟩ := hsp
            exact end_ S6 fun s7 J7 => ⟨_, _, J7, q6⟩
          | ret u =>
            obtain ⟨v6, σ6, H6, S6, r6, q6⟩ := hsp
            exact end_ S6 fun s7 J7 => ⟨_, _, _, J7, r6, q6⟩
        | false =>
          show wpAny _ X.A (handleBy (.ref a) X.env hds2) _ _ _
          exact ih (hno rfl)
    exact go hh w
  · cases f with
    | next =>
      obtain ⟨σ', H', J', q⟩ := hsp
      exact wpAny_execs_nil ⟨σ', H', J'.ofTry ok, q⟩
    | brk =>
      obtain ⟨σ', H', J', q⟩ := hsp
      exact ⟨σ', H', J'.ofTry ok, q⟩
    | cont =>
      obtain ⟨σ', H', J', q⟩ := hsp
      exact ⟨σ', H', J'.ofTry ok, q⟩
    | ret u =>
      obtain ⟨v, σ', H', J', r, q⟩ := hsp
      exact ⟨v, σ', H', J'.ofTry ok, r, q⟩
end
end L2

set_option Elab.async false
set_option linter.all false
set_option maxRecDepth 100000
/-! TM25: isinstance; try .. except. -/
namespace TM
open PySem L2
/-! ### isinstance, settled by the type -/
def IsTy (τ : Ty) (t : String) : Prop := ∀ {K : Fg} {H : Hp} {v : V} {x : τ.T}, τ.rep K H v x → TyX K H v (.type t)
theorem isty_int : IsTy tInt "int" := fun {K H v x} h => by
  have h' : v = .int x := h
  rw [h']; exact .base (.int x)
theorem isty_bool : IsTy tBool "bool" := fun {K H v x} h => by
  have h' : v = .bl x := h
  rw [h']; exact .base (.bl x)
theorem isty_str : IsTy tStr "str" := fun {K H v x} h => by
  rw [h.1]; exact .base (.str x)
theorem isty_none : IsTy tNone "NoneType" := fun {K H v x} h => by
  have h' : v = .non := h
  rw [h']; exact .base .non
theorem isty_list {τ : Ty} : IsTy (tList τ) "list" := fun {K H v x} ⟨a, us, h1, h2, _⟩ => by
  rw [h1]; exact .base (.lst h2)
theorem tyx_sqT {K : Fg} {H : Hp} {a : Addr} {xs : List V} (h : SqT K H a xs) : TyX K H (.ref a) (.type "tuple") := by
  rcases h with (h | ⟨o, h⟩) | ⟨o, its, n, h, hc, _⟩
  · exact .base (.tup h)
  · exact .fTuple h
  · exact .kTuple h hc
theorem isty_tup {τ : Ty} : IsTy (tTup τ) "tuple" := fun {K H v x} ⟨a, us, h1, h2, _⟩ => by
  rw [h1]; exact tyx_sqT h2
theorem isty_t2 {σ τ : Ty} : IsTy (tT2 σ τ) "tuple" := fun {K H v x} ⟨a, u, w, h1, h2, _⟩ => by
  rw [h1]; exact tyx_sqT h2
theorem isty_t3 {ρ σ τ : Ty} : IsTy (tT3 ρ σ τ) "tuple" := fun {K H v x} ⟨a, u, w, z, h1, h2, _⟩ => by
  rw [h1]; exact tyx_sqT h2
/-- instances of own classes -/
structure InsC (K : Fg) (C : Addr) : Prop where
  cl : Cls K C
  ha : PySem.W.findIn K (.ref C) "__class__" = some (some (.builtin "object.__class__"))
  hn : PySem.W.specialIn K (.builtin "object.__class__") "__get__" = some (some (.builtin "getset_descriptor.__get__"))
  ht : PySem.W.takesIn K (.builtin "object.__class__") = some true
  hm : PySem.W.mroIn K C (.type "object") = some true
section
variable {B : Bd} {G : List Slot} {e : Expr} {τ : Ty} {pos p p2 : Pos} {n : Str}
theorem pj_isi {t T : String} {m : Res τ.T} {b : Bool} (s : IsTy τ t) (hb : kitB t T = some b) (hv : bootBuiltins n = some (.type T)) (hg : B.sc.names.lookup ("isinstance" : Str) = some .globalImplicit) (hm : B.mg "isinstance" = none) (hgn : B.sc.names.lookup n = some .globalImplicit) (hmn : B.mg n = none) (ha : PJ B G e τ m)
    (hn : n ≠ "__name__" := by decide) (hdb : (n == ("__debug__" : Str)) = false := by decide) (hs : ∀ env, starEach [e, .Name n p2] env = (false, eval e env) :: starEach [.Name n p2] env := by intro _; rfl) (hs2 : ∀ env, starEach [.Name n p2] env = (false, eval (.Name n p2) env) :: starEach [] env := by intro _; rfl) (hpl : ∀ env, (backTo pos (starEach [.Name n p2] env)).any (·.1) = false := by intro _; rfl) :
    PJ B G (.Call (.Name "isinstance" p) [e, .Name n p2] [] pos) tBool (m.bind fun _ => .ok b) := by
  obtain ⟨ta, h1, h2⟩ := ha
  refine ⟨fun W => tCB (rIsi B.K) (tCons (ta W) (tCons (tC (.ty T)) tNil)), fun X W ok tk => by
    have h := pe_callB (p := p) (call_isi (X := X)) (by show X.env.scope.names.lookup _ = _; rw [ok.sc]; exact hg) (by rw [ok.mg]; exact hm) PyProof.Rows.boot_isinstance (pa_cons (h1 X W ok tk) (pa_cons (pe_bltn (pos := p2) (v := .ty T) (by show X.env.scope.names.lookup _ = _; rw [ok.sc]; exact hgn) (by rw [ok.mg]; exact hmn) hv rfl hn hdb) pa_nil (hs2 X.env)) (hs X.env)) (by decide) (by decide) (hs X.env) (hpl X.env)
    rw [ok.K] at h
    exact h, fun W xok st H Hv Q v ve xw q => ?_⟩
  refine h2 W xok st H Hv _ v ve xw (Res.wp_mono (Res.wp_bind.mp q) fun x k u H1 Hv1 g r => ?_)
  exact ⟨u, .ty T, .type t, .type T, b, rfl, .ty T, s (τ.mono g.view.sub r), kit_ty hb, k _ H1 Hv1 g rfl⟩
/-- isinstance(x, C), x an instance of C' -/
theorem pj_isiC {C D : Addr} {T : Type} {flds : T → List (Str × FV)} {m : Res T} {b : Bool} (hC : InsC B.K C) (hb : PySem.W.kitOne B.K (.ref C) (.ref D) = some b) (hg : B.sc.names.lookup ("isinstance" : Str) = some .globalImplicit) (hm : B.mg "isinstance" = none) (hgn : B.sc.names.lookup n = some .globalImplicit) (hmn : B.mg n = some (.ref D)) (ha : PJ B G e (tIns C T flds) m)
    (hdb : (n == ("__debug__" : Str)) = false := by decide) (hs : ∀ env, starEach [e, .Name n p2] env = (false, eval e env) :: starEach [.Name n p2] env := by intro _; rfl) (hs2 : ∀ env, starEach [.Name n p2] env = (false, eval (.Name n p2) env) :: starEach [] env := by intro _; rfl) (hpl : ∀ env, (backTo pos (starEach [.Name n p2] env)).any (·.1) = false := by intro _; rfl) :
    PJ B G (.Call (.Name "isinstance" p) [e, .Name n p2] [] pos) tBool (m.bind fun _ => .ok b) := by
  obtain ⟨ta, h1, h2⟩ := ha
  refine ⟨fun W => tCB (rIsi B.K) (tCons (ta W) (tCons (tC (.ref D)) tNil)), fun X W ok tk => by
    have h := pe_callB (p := p) (call_isi (X := X)) (by show X.env.scope.names.lookup _ = _; rw [ok.sc]; exact hg) (by rw [ok.mg]; exact hm) PyProof.Rows.boot_isinstance (pa_cons (h1 X W ok tk) (pa_cons (pe_glob (pos := p2) (v := .ref D) (by show X.env.scope.names.lookup _ = _; rw [ok.sc]; exact hgn) (by rw [ok.mg]; exact hmn) rfl hdb) pa_nil (hs2 X.env)) (hs X.env)) (by decide) (by decide) (hs X.env) (hpl X.env)
    rw [ok.K] at h
    exact h, fun W xok st H Hv Q v ve xw q => ?_⟩
  refine h2 W xok st H Hv _ v ve xw (Res.wp_mono (Res.wp_bind.mp q) fun x k u H1 Hv1 g r => ?_)
  obtain ⟨a, dx, fs, rfl, h3, _⟩ := r
  exact ⟨.ref a, .ref D, .ref C, .ref D, b, rfl, .own D, .base (.ins (g.view.sub _ _ h3) hC.cl hC.ha hC.hn hC.ht hC.hm), hb, k _ H1 Hv1 g rfl⟩
/-- is None, of a thing that never is None -/
def NoN (τ : Ty) : Prop := ∀ {K : Fg} {H : Hp} {v : V} {x : τ.T}, τ.rep K H v x → v ≠ .non
theorem non_int : NoN tInt := fun {K H v x} h => by
  have h' : v = .int x := h
  rw [h']; intro q; cases q
theorem non_bool : NoN tBool := fun {K H v x} h => by
  have h' : v = .bl x := h
  rw [h']; intro q; cases q
theorem non_list {τ : Ty} : NoN (tList τ) := fun {K H v x} ⟨a, us, h1, _⟩ => by rw [h1]; intro q; cases q
theorem non_tup {τ : Ty} : NoN (tTup τ) := fun {K H v x} ⟨a, us, h1, _⟩ => by rw [h1]; intro q; cases q
theorem non_t2 {σ τ : Ty} : NoN (tT2 σ τ) := fun {K H v x} ⟨a, u, w, h1, _⟩ => by rw [h1]; intro q; cases q
theorem non_t3 {ρ σ τ : Ty} : NoN (tT3 ρ σ τ) := fun {K H v x} ⟨a, u, w, z, h1, _⟩ => by rw [h1]; intro q; cases q
theorem pj_isN0 {ma : Res τ.T} {j p} {a : Expr} (s : NoN τ) (ha : PJ B G a τ ma) : PJ B G (.Compare a [.Is] [.Constant .none j p] pos) tBool (ma.bind fun x => .ok false) :=
  (pj_cmp (σ := tNone) (g := fun (x : τ.T) _ => .ok false) (r := fun x y H Q => y = .non ∧ Q (.bl (decide (x = .non))) H) (fun X ok => op_isN) (nobehind _ (by decide) (by decide)) (fun H Hv v w x y Q vw r1 r2 z e q => by
    cases e
    refine ⟨r2, ?_⟩
    exact q _ H Hv (Grow.refl vw) (by rw [decide_eq_false (s r1)])) (fun _ _ _ h => by cases h) ha pj_none).cast (by cases ma <;> rfl)
/-- a test whose answer is known -/
theorem etj_const {b : Bool} (h : TJ B G e (.ok b)) : ETJ B G e (.ok ()) (fun _ => G) (fun _ => b) := fun X W ok tk =>
  pt_imp (etj_of h X W ok tk) fun σ H Q ⟨f, xok, D, vs, Hs, xs, env, q⟩ => ⟨f, xok, D, vs, Hs, xs, env, fun H' Hs' env' => q H' Hs' env'⟩
end

/-! ### try .. except -/
theorem XRep.mono {mg : Str → Option Value} {ex : Exc} {cls : Value} {d : Option Addr} {H H' : Hp} (e : Same H H') (h : XRep mg ex cls d H) : XRep mg ex cls d H' := by
  obtain ⟨C, h1, h2, h3⟩ := h
  refine ⟨C, h1, h2, ?_⟩
  rcases hp : ex.pay with _ | i | l
  · rw [hp] at h3; exact h3
  · rw [hp] at h3; obtain ⟨dx, k1, f, k2⟩ := h3; exact ⟨dx, k1, f, e _ _ k2⟩
  · rw [hp] at h3; obtain ⟨dx, k1, f, a, k2, k3⟩ := h3; exact ⟨dx, k1, f, a, e _ _ k2, sqT_mono e k3⟩
/-- the exception that a suite holds -/
@[reducible] def tExc (mg : Str → Option Value) (ex : Exc) (cls : Value) (d : Option Addr) (a : Addr) : Ty := ⟨Unit, fun _ H v _ => v = .ref a ∧ XRep mg ex cls d H, fun e h => ⟨h.1, h.2.mono e⟩⟩
abbrev suB (B : Bd) (a : Addr) (cls : Value) (d : Option Addr) : Bd := { B with calm := false, sx := fun X => ∃ X0 oe pn, X = Cx.suite X0 a ((a, oe) :: pn) ∧ Zc cls d oe ∧ ∃ vs, oe.data = .fields vs }
def tryE {α β : Type} (m : Res β) (mr : Res α) (h : Exc → Res α) : Res α := match m with
  | .ok _ => mr
  | .exc e => h e
  | .bad => .bad
theorem Grow.ext {H Hs H' : Hp} (v : View H Hs) (e : Same H H') : Grow H Hs H' (fun a => if (H a).isSome = true then Hs a else H' a) := by
  refine ⟨e, ⟨fun a u k => ?_, fun a u k n => ?_⟩, fun a u k => ?_, fun a u k => ?_⟩
  · by_cases h : (H a).isSome = true
    · simp only [h, if_true] at k; exact e a u (v.sub a u k)
    · simp only [h] at k; exact k
  · by_cases h : (H a).isSome = true
    · simp only [h, if_true]
      obtain ⟨u2, e2⟩ := Option.isSome_iff_exists.mp h
      have e3 := e a u2 e2
      rw [k] at e3; cases e3
      exact v.imm a u e2 n
    · simp only [h]; exact k
  · have h : (H a).isSome = true := by rw [v.sub a u k]; rfl
    simp only [h, if_true]; exact k
  · by_cases h : (H a).isSome = true
    · simp only [h, if_true] at k; exact .inl k
    · simp at h; exact .inr h
section
variable {B : Bd} {G : List Slot} {e : Expr} {τ : Ty} {pos p p1 p2 : Pos} {n x : Str} {α ζ : Type} {fin : α → Fin} {rest suite : List Stmt} {b0 : Stmt} {hds : List ExceptHandler}
/-- the except clauses: what they make of an exception -/
def HdJ (B : Bd) (G : List Slot) (hds : List ExceptHandler) (h : Exc → Res α) (fin : α → Fin) : Prop := ∀ X W, CxS B X → Takes X W → ∃ l : List Cl3, HdsOk3 X hds l ∧ ∀ D f xok σ H Hs ex cls d, XS B f xok W → Env B.K f G [] σ [] H Hs → XRep B.mg ex cls d H → (h ex).wp xok (fun a => FinOk B.K f D (fin a)) → wMany3 X.K W D l cls d σ H
theorem hdj_nil : HdJ B G [] (fun e => .exc e) fin := fun X W ok tk => ⟨[], .nil, fun D f xok σ H Hs ex cls d xs env r q => xs ex q σ cls d H env.pres r⟩
/-- the clause of the class that stands at x catches the exception nm, or does not -/
def ExM (B : Bd) (D : Addr) (nm : Str) (b : Bool) : Prop := ∃ C, B.mg nm = some (.ref C) ∧ PySem.W.exmOne B.K (.ref C) (.ref D) = some b
/-- what is known of the exception that a suite holds -/
def XShape (mg : Str → Option Value) (ex : Exc) (cls : Value) (d : Option Addr) : Prop := ∃ C, mg ex.name = some (.ref C) ∧ cls = .ref C ∧ (ex.pay = .no → d = none)
theorem XRep.shape {mg : Str → Option Value} {ex : Exc} {cls : Value} {d : Option Addr} {H : Hp} (h : XRep mg ex cls d H) : XShape mg ex cls d := by
  obtain ⟨C, h1, h2, h3⟩ := h
  exact ⟨C, h1, h2, fun e => by rw [e] at h3; exact h3⟩
theorem hdj_cons {D : Addr} {mt : Str → Option Bool} (pk : Pay → Bool) {ms : Exc → Res ζ} {h : Exc → Res α} {finz : ζ → Fin} {inj : ζ → α} (hx : B.mg x = some (.ref D)) (hg : B.sc.names.lookup x = some .globalImplicit) (hm : ∀ nm b, mt nm = some b → ExM B D nm b)
    (hs : ∀ a ex cls d, mt ex.name = some true → pk ex.pay = true → XShape B.mg ex cls d → BJ (suB B a cls d) G (b0 :: suite) (ms ex) finz) (hz : ∀ z, ∃ G κ x, finz z = .rt G κ x) (hi : ∀ z, fin (inj z) = finz z) (hr : HdJ B G hds h fin) (hdb : (x == ("__debug__" : Str)) = false := by decide) :
    HdJ B G (.ExceptHandler (some (.Name x p)) none (b0 :: suite) p2 :: hds) (fun ex => match mt ex.name with | some true => if pk ex.pay = true then (ms ex).calm.map inj else .bad | some false => h ex | none => .bad) fin := fun X W ok tk => by
  obtain ⟨l, h1, h2⟩ := hr X W ok tk
  refine ⟨(_, none, fun a cls d D σ H => ∃ ex : { ex : Exc // mt ex.name = some true ∧ pk ex.pay = true ∧ XShape B.mg ex cls d }, ∃ f xok Hs, XS (suB B a cls d) f xok W0 ∧ Env B.K f G [] σ [] H Hs ∧ (ms ex.1).wp xok fun z => FinOk B.K f D (finz z)) :: l, .cons (c := .ref D) ⟨by show X.env.scope.names.lookup _ = _; rw [ok.sc]; exact hg, hdb, Or.inl (by rw [ok.mg]; exact hx)⟩ (fun a oe cls d pn hzc hf => ?_) h1, ?_⟩
  · refine pss_ex fun ⟨ex, hmt, hpk, hsh⟩ => ?_
    refine hs a ex cls d hmt hpk hsh _ W0 ⟨⟨ok.P, ok.w, ok.K, ok.mg, ok.base, fun z => Bool.noConfusion z, ok.N, ok.sc, rfl, X, oe, pn, rfl, hzc, hf⟩, PassesOwn.never, ok.fn, ok.stk, ok.frm⟩ takes0
  · intro D f xok σ H Hs ex cls d xs env r q
    obtain ⟨C, hC, rC, rp⟩ := id r
    cases hmt : mt ex.name with
    | none => simp only [hmt] at q; exact q.elim
    | some b =>
      obtain ⟨C', hC', hexm⟩ := hm _ _ hmt
      rw [hC] at hC'
      cases hC'
      rw [rC]
      refine ⟨b, by rw [ok.K]; exact hexm, fun hb a ha => ?_, fun hb => ?_⟩
      · subst hb
        simp only [hmt] at q
        have hpk : pk ex.pay = true := by
          by_cases hh : pk ex.pay = true
          · exact hh
          · rw [if_neg hh] at q; exact q.elim
        rw [if_pos hpk] at q
        rw [← rC]
        refine ⟨⟨ex, hmt, hpk, r.shape⟩, f, fun _ => False, Hs, fun _ z => z.elim, env, ?_⟩
        refine Res.wp_mono (Res.wp_calm (Res.wp_bind.mp q)) fun z kz => ?_
        have kz' : FinOk B.K f D (fin (inj z)) := kz
        rw [hi z] at kz'
        exact kz'
      · subst hb
        simp only [hmt] at q
        rw [← rC]
        exact h2 D f xok σ H Hs ex cls d xs env r q
theorem hdj_as (i : Nat) {D : Addr} {mt : Str → Option Bool} (pk : Pay → Bool) {ms : Exc → Res ζ} {h : Exc → Res α} {finz : ζ → Fin} {inj : ζ → α} (hN : B.N.Nodup) (hni : B.N[i]? = some n) (hnl : B.sc.names.lookup n = some .local) (hx : B.mg x = some (.ref D)) (hg : B.sc.names.lookup x = some .globalImplicit) (hm : ∀ nm b, mt nm = some b → ExM B D nm b)
    (hs : ∀ a ex cls d, mt ex.name = some true → pk ex.pay = true → XShape B.mg ex cls d → BJ (suB B a cls d) (G.set i (sv (tExc B.mg ex cls d a) ())) (b0 :: suite) (ms ex) finz) (hz : ∀ z, ∃ G κ x, finz z = .rt G κ x) (hi : ∀ z, fin (inj z) = finz z) (hr : HdJ B G hds h fin) (hdb : (x == ("__debug__" : Str)) = false := by decide) :
    HdJ B G (.ExceptHandler (some (.Name x p)) (some n) (b0 :: suite) p2 :: hds) (fun ex => match mt ex.name with | some true => if pk ex.pay = true then (ms ex).calm.map inj else .bad | some false => h ex | none => .bad) fin := fun X W ok tk => by
  obtain ⟨l, h1, h2⟩ := hr X W ok tk
  refine ⟨(_, some i, fun a cls d D σ H => ∃ ex : { ex : Exc // mt ex.name = some true ∧ pk ex.pay = true ∧ XShape B.mg ex cls d }, ∃ f xok Hs, XS (suB B a cls d) f xok W0 ∧ Env B.K f (G.set i (sv (tExc B.mg ex.1 cls d a) ())) [] σ [] H Hs ∧ (ms ex.1).wp xok fun z => FinOk B.K f D (finz z)) :: l, .named (c := .ref D) (by rw [ok.N]; exact hN) (by rw [ok.N]; exact hni) (by show X.env.scope.names.lookup n = _; rw [ok.sc]; exact hnl) ⟨by show X.env.scope.names.lookup _ = _; rw [ok.sc]; exact hg, hdb, Or.inl (by rw [ok.mg]; exact hx)⟩ (fun a oe cls d pn hzc hf => ?_) h1, ?_⟩
  · refine pss_ex fun ⟨ex, hmt, hpk, hsh⟩ => ?_
    refine hs a ex cls d hmt hpk hsh _ W0 ⟨⟨ok.P, ok.w, ok.K, ok.mg, ok.base, fun z => Bool.noConfusion z, ok.N, ok.sc, rfl, X, oe, pn, rfl, hzc, hf⟩, PassesOwn.never, ok.fn, ok.stk, ok.frm⟩ takes0
  · intro D f xok σ H Hs ex cls d xs env r q
    obtain ⟨C, hC, rC, rp⟩ := id r
    cases hmt : mt ex.name with
    | none => simp only [hmt] at q; exact q.elim
    | some b =>
      obtain ⟨C', hC', hexm⟩ := hm _ _ hmt
      rw [hC] at hC'
      cases hC'
      rw [rC]
      refine ⟨b, by rw [ok.K]; exact hexm, fun hb a ha => ?_, fun hb => ?_⟩
      · subst hb
        simp only [hmt] at q
        have hpk : pk ex.pay = true := by
          by_cases hh : pk ex.pay = true
          · exact hh
          · rw [if_neg hh] at q; exact q.elim
        rw [if_pos hpk] at q
        have rsh := r.shape
        rw [← rC]
        have rv : XRep B.mg ex cls d Hs := by
          obtain ⟨C2, k1, k2, k3⟩ := r
          refine ⟨C2, k1, k2, ?_⟩
          rcases hp : ex.pay with _ | i | l
          · rw [hp] at k3; exact k3
          · rw [hp] at k3; obtain ⟨dx, q1, f, q2⟩ := k3; exact ⟨dx, q1, f, env.view.imm _ _ q2 fun z => z⟩
          · rw [hp] at k3; obtain ⟨dx, q1, f, a, q2, q3⟩ := k3; exact ⟨dx, q1, f, a, env.view.imm _ _ q2 fun z => z, sqT_imm env.view.imm q3⟩
        refine ⟨⟨ex, hmt, hpk, rsh⟩, f, fun _ => False, Hs, fun _ z => z.elim, env.storeVal i ⟨rfl, rv⟩, ?_⟩
        refine Res.wp_mono (Res.wp_calm (Res.wp_bind.mp q)) fun z kz => ?_
        have kz' : FinOk B.K f D (fin (inj z)) := kz
        rw [hi z] at kz'
        obtain ⟨Gz, κz, xz, ez⟩ := hz z
        rw [ez] at kz' ⊢
        exact kz'
      · subst hb
        simp only [hmt] at q
        rw [← rC]
        exact h2 D f xok σ H Hs ex cls d xs env r q
/-- try: e except ..: e changes nothing of ours -/
theorem bj_tryE {m : Res τ.T} {h : Exc → Res ζ} {finz : ζ → Fin} {inj : ζ → α} {mr : Res α} {h0 : ExceptHandler} (hsx : ∀ X, B.sx X) (he : PJ B G e τ m) (hh : HdJ B G (h0 :: hds) h finz) (hz : ∀ z, ∃ G κ x, finz z = .rt G κ x) (hi : ∀ z, fin (inj z) = finz z) (hr : BJ B G rest mr fin) (hsw : ∀ env, swapsWith e none p1.line env = pure false := by intro _; rfl) :
    BJ B G (.Try [.Expr e p1] (h0 :: hds) [] [] pos :: rest) (tryE m mr fun ex => (h ex).map inj) fin := fun X W ok tk => by
  obtain ⟨l, h1, h2⟩ := hh X W ok tk
  obtain ⟨t, a1, a2⟩ := he
  refine pss_imp (pss_cons (ps_try3 (tb := fun W => tDrop (t W)) ok.stk ok.frm tk (fun W pn xe tkW hp => pss_one (ps_expr (a1 (X.tr pn xe) W ⟨ok.P, ok.w, ok.K, ok.mg, ok.base, ok.room, ok.N, ok.sc, ok.calm, hsx _⟩ tkW) (hsw _))) h1) (hr X W ok tk)) fun D σ H ⟨f, xok, Hs, xs, env, q⟩ => ?_
  refine a2 _ (fun ex => ((h ex).map inj).wp xok (fun a => FinOk B.K f D (fin a))) σ H H _ (View.refl H) env.vall (fun ex hx cls d H' s r => ?_) ?_
  · refine h2 _ f xok σ H' _ ex cls d xs (env.grown (Grow.ext env.view s)) r (Res.wp_mono (Res.wp_bind.mp hx) fun z kz => ?_)
    have kz' : FinOk B.K f D (fin (inj z)) := kz
    rw [hi z] at kz'
    obtain ⟨Gz, κz, xz, ez⟩ := hz z
    rw [ez] at kz' ⊢
    exact kz'
  cases m with
  | ok x =>
    intro v H' Hv' g r
    obtain ⟨SG, SD, _, _, o⟩ := id env
    obtain ⟨Hs', g', i1, i2⟩ := thawed o g
    exact ⟨f, xok, Hs', xs, env.grown g', q⟩
  | exc ex => exact q
  | bad => exact q.elim
end

/-! isinstance(e, C) in a suite -/
def noPay : Pay → Bool
  | .no => true
  | _ => false
theorem noPay_eq {p : Pay} (h : noPay p = true) : p = .no := by
  cases p <;> first | rfl | cases h
/-- what isinstance says of the exception nm and the class that stands at n -/
def IsE (B : Bd) (nm n : Str) (b : Bool) : Prop := ∃ C, B.mg nm = some (.ref C) ∧ ExcC B.K C ∧ ((∃ D, B.mg n = some (.ref D) ∧ PySem.W.kitOne B.K (.ref C) (.ref D) = some b) ∨ (∃ T, B.mg n = none ∧ bootBuiltins n = some (.type T) ∧ n ≠ "__name__" ∧ PySem.W.kitOne B.K (.ref C) (.type T) = some b))
section
variable {B : Bd} {G : List Slot} {e : Expr} {pos p p2 : Pos} {n : Str} {a : Addr} {cls : Value} {d : Option Addr}
theorem pj_isE {ex : Exc} {b : Bool} {m : Res Unit} (hsh : XShape B.mg ex cls d) (hpk : noPay ex.pay = true) (hb : IsE B ex.name n b) (hg : B.sc.names.lookup ("isinstance" : Str) = some .globalImplicit) (hm : B.mg "isinstance" = none) (hgn : B.sc.names.lookup n = some .globalImplicit) (ha : PJ (suB B a cls d) G e (tExc B.mg ex cls d a) m)
    (hdb : (n == ("__debug__" : Str)) = false := by decide) (hs : ∀ env, starEach [e, .Name n p2] env = (false, eval e env) :: starEach [.Name n p2] env := by intro _; rfl) (hs2 : ∀ env, starEach [.Name n p2] env = (false, eval (.Name n p2) env) :: starEach [] env := by intro _; rfl) (hpl : ∀ env, (backTo pos (starEach [.Name n p2] env)).any (·.1) = false := by intro _; rfl) :
    PJ (suB B a cls d) G (.Call (.Name "isinstance" p) [e, .Name n p2] [] pos) tBool (m.bind fun _ => .ok b) := by
  obtain ⟨C, s1, s2, s3⟩ := hsh
  have hd := s3 (noPay_eq hpk)
  subst s2 hd
  obtain ⟨C', b1, b2, b3⟩ := hb
  rw [s1] at b1
  cases b1
  obtain ⟨ta, h1, h2⟩ := ha
  obtain ⟨c, cv, hcv, hk, hpe⟩ : ∃ (c : V) (cv : Value), (∀ u, RelV c u → u = cv) ∧ PySem.W.kitOne B.K (.ref C) cv = some b ∧ ∀ X, CxOk (suB B a (.ref C) none) X → PE X (.Name n p2) (tC c) := by
    rcases b3 with ⟨D, k1, k2⟩ | ⟨T, k1, k2, k3, k4⟩
    · exact ⟨.ref D, .ref D, fun u r => r, k2, fun X ok => pe_glob (by show X.env.scope.names.lookup _ = _; rw [ok.sc]; exact hgn) (by rw [ok.mg]; exact k1) rfl hdb⟩
    · exact ⟨.ty T, .type T, fun u r => r, k4, fun X ok => pe_bltn (by show X.env.scope.names.lookup _ = _; rw [ok.sc]; exact hgn) (by rw [ok.mg]; exact k1) k2 rfl k3 hdb⟩
  refine ⟨fun W => tCB (rIsE B.K C a) (tCons (ta W) (tCons (tC c) tNil)), fun X W ok tk => ?_, fun W xok st H Hv Q v ve xw q => ?_⟩
  · obtain ⟨X0, oe, pn, rfl, hzc, hf⟩ := ok.sx
    have hK : X0.K = B.K := ok.K
    have hh := pe_callB (p := p) (call_isE (X := X0) (a := a) (D := C) (oe := oe) (pn := pn) (by rw [hK]; exact b2) hzc hf) (by show X0.env.scope.names.lookup _ = _; rw [show X0.env.scope = B.sc from ok.sc]; exact hg) (by show X0.mg _ = _; rw [show X0.mg = B.mg from ok.mg]; exact hm) PyProof.Rows.boot_isinstance (pa_cons (h1 _ W ok tk) (pa_cons (hpe _ ok) pa_nil (hs2 _)) (hs _)) (by decide) (by decide) (hs _) (hpl _)
    rw [hK] at hh
    exact hh
  · refine h2 W xok st H Hv _ v ve xw (Res.wp_mono (Res.wp_bind.mp q) fun x k u H1 Hv1 g r => ?_)
    obtain ⟨ru, _⟩ := r
    subst ru
    exact ⟨c, cv, b, rfl, hcv, hk, k _ H1 Hv1 g rfl⟩
end
end TM

set_option Elab.async false
set_option linter.all false
set_option maxRecDepth 100000
/-! TM26: comprehensions with two fors. -/
namespace TM
open PySem L2
/-- the list at D that grows, behind H1 -/
def AccW (K : Fg) (κ : Kd) (H1 Hv1 : Hp) (D : Addr) (ys : List κ.ty.T) (H2 Hv2 : Hp) (acc : List V) (Ss : List (List Addr)) : Prop := H2 D = some (.lst acc) ∧ acc.length = ys.length ∧ Grow H1 Hv1 H2 Hv2 ∧ Hv2 D = none ∧ Els (fun S v x => κ.rep K S H2 Hv2 v x) Ss acc ys ∧ (D :: Ss.flatten).Nodup ∧ (∀ a ∈ Ss.flatten, H1 a = none ∧ (∃ o, H2 a = some o ∧ Mut (some o)) ∧ Hv2 a = none)
abbrev AccAt (K : Fg) (κ : Kd) (H1 Hv1 : Hp) (D : Addr) (ys : List κ.ty.T) (H2 Hv2 : Hp) : Prop := ∃ acc Ss, AccW K κ H1 Hv1 D ys H2 Hv2 acc Ss
section
variable {K : Fg} {κ : Kd} {H H1 Hv Hv1 H2 Hv2 H3 Hv3 : Hp} {D : Addr} {ys : List κ.ty.T}
theorem acc_new (v : View H1 Hv1) (hD : H1 D = none) : AccAt K κ H1 Hv1 D [] (upd H1 D (.lst [])) Hv1 := by
  have hDv : Hv1 D = none := by
    cases h : Hv1 D with
    | none => rfl
    | some u => rw [v.sub D u h] at hD; cases hD
  exact ⟨[], [], upd_same, rfl, Grow.newOwn v hD trivial, hDv, trivial, by simp, fun a m => by simp at m⟩
theorem AccW.grow {acc : List V} {Ss : List (List Addr)} (h : AccW K κ H1 Hv1 D ys H2 Hv2 acc Ss) (g : Grow H2 Hv2 H3 Hv3) : AccW K κ H1 Hv1 D ys H3 Hv3 acc Ss := by
  obtain ⟨hd, hl, g2, hDv2, hel, hnd, hfr⟩ := h
  refine ⟨g.same _ _ hd, hl, g2.trans g, ?_, hel.imp fun S v x _ r => κ.keep r (fun a _ o e => g.same a o e) g.up, hnd, fun a m => ?_⟩
  · cases h : Hv3 D with
    | none => rfl
    | some w =>
      rcases g.fresh D w h with z | z
      · rw [hDv2] at z; cases z
      · rw [hd] at z; cases z
  · obtain ⟨k1, ⟨o, k2, k3⟩, k4⟩ := hfr a m
    refine ⟨k1, ⟨o, g.same a o k2, k3⟩, ?_⟩
    cases h : Hv3 a with
    | none => rfl
    | some w =>
      rcases g.fresh a w h with z | z
      · rw [k4] at z; cases z
      · rw [k2] at z; cases z
theorem AccAt.grow (h : AccAt K κ H1 Hv1 D ys H2 Hv2) (g : Grow H2 Hv2 H3 Hv3) : AccAt K κ H1 Hv1 D ys H3 Hv3 := let ⟨acc, Ss, h⟩ := h; ⟨acc, Ss, h.grow g⟩
theorem AccAt.view (h : AccAt K κ H1 Hv1 D ys H2 Hv2) : Grow H1 Hv1 H2 Hv2 := let ⟨_, _, h⟩ := h; h.2.2.1
theorem AccAt.push {S : List Addr} {w : V} {y : κ.ty.T} (hD : H1 D = none) (h : AccAt K κ H1 Hv1 D ys H2 Hv2) (g : Grow H2 Hv2 H3 Hv3) (r : κ.rep K S H3 Hv3 w y) (f : Fresh S H2 H3 Hv3) :
    ∃ acc, H3 D = some (.lst acc) ∧ acc.length = ys.length ∧ AccAt K κ H1 Hv1 D (ys ++ [y]) (upd H3 D (.lst (acc ++ [w]))) Hv3 := by
  have hfr2 : ∀ a ∈ S, H1 a = none := fun a m => h.view.same.free (f.new a m)
  obtain ⟨acc, Ss, h⟩ := h
  obtain ⟨hd, hl, g3, hDv3, hel, hnd, hfr⟩ := h.grow g
  obtain ⟨hd2, _, _, _, _, _, hfr0⟩ := h
  have nD6 : ∀ a ∈ S, a ≠ D := fun a m e => by
    have := f.new a m
    rw [e, hd2] at this
    cases this
  have nD : ∀ a ∈ Ss.flatten, a ≠ D := fun a m e => (List.nodup_cons.mp hnd).1 (by rw [← e]; exact m)
  have hSs2 : ∀ a ∈ Ss.flatten, ∃ o, H2 a = some o := fun a m => let ⟨_, ⟨o, e, _⟩, _⟩ := hfr0 a m; ⟨o, e⟩
  refine ⟨acc, hd, hl, acc ++ [w], Ss ++ [S], upd_same, by rw [List.length_append, List.length_append, hl]; rfl, g3.poke hD hDv3 trivial, hDv3, ?_, ?_, ?_⟩
  · exact Els.append (hel.imp fun S v x hm r => κ.keep r (fun a ha o e => by rw [upd_ne (nD a (List.mem_flatten.mpr ⟨S, hm, ha⟩))]; exact e) (Same.refl _)) ⟨κ.keep r (fun a ha o e => by rw [upd_ne (nD6 a ha)]; exact e) (Same.refl _), trivial⟩
  · rw [List.flatten_append, List.flatten_cons, List.flatten_nil, List.append_nil, ← List.cons_append]
    refine List.nodup_append.mpr ⟨hnd, f.nodup, fun a ha b hb e => ?_⟩
    subst e
    have hn := f.new a hb
    rcases List.mem_cons.mp ha with m | m
    · exact nD6 a hb m
    · obtain ⟨o, k2⟩ := hSs2 a m
      rw [k2] at hn; cases hn
  · intro a m
    rw [List.flatten_append, List.flatten_cons, List.flatten_nil, List.append_nil] at m
    rcases List.mem_append.mp m with m | m
    · obtain ⟨k1, ⟨o, k2, k3⟩, k4⟩ := hfr a m
      exact ⟨k1, ⟨o, by rw [upd_ne (nD a m)]; exact k2, k3⟩, k4⟩
    · obtain ⟨o, k2, k3⟩ := f.live a m
      exact ⟨hfr2 a m, ⟨o, by rw [upd_ne (nD6 a m)]; exact k2, k3⟩, f.sep a m⟩
theorem AccAt.fin (hD : H1 D = none) (g1 : Grow H Hv H1 Hv1) (h : AccAt K κ H1 Hv1 D ys H2 Hv2) (hl : ys.length ≤ sizeLine) : ∃ S, Grow H Hv H2 Hv2 ∧ (kL κ).rep K S H2 Hv2 (.ref D) ys ∧ Fresh S H H2 Hv2 := by
  obtain ⟨acc, Ss, hd, hl', g2, hDv2, hel, hnd, hfr⟩ := h
  refine ⟨D :: Ss.flatten, g1.trans g2, ⟨D, acc, Ss, rfl, trivial, hd, hl, rfl, hel⟩, hnd, fun a m => ?_, fun a m => ?_, fun a m => ?_⟩
  · rcases List.mem_cons.mp m with m | m
    · rw [m]; exact g1.same.free hD
    · exact g1.same.free (hfr a m).1
  · rcases List.mem_cons.mp m with m | m
    · rw [m]; exact ⟨_, hd, trivial⟩
    · exact (hfr a m).2.1
  · rcases List.mem_cons.mp m with m | m
    · rw [m]; exact hDv2
    · exact (hfr a m).2.2
end
/-- [g x y for x in xs for y in w x], k of them there already -/
def comp2R {α β γ : Type} (k : Nat) (xs : List α) (w : α → Res (List γ)) (g : α → γ → Res β) : Res (List β) := match xs with
  | [] => .ok []
  | x :: xs => (w x).calm.bind fun ys => (gate (k + ys.length ≤ sizeLine) ()).bind fun _ => (mapR ys (g x)).bind fun l => (comp2R (k + ys.length) xs w g).bind fun r => .ok (l ++ r)
theorem mapR_len {α β : Type} {g : α → Res β} : ∀ {xs : List α} {ys : List β}, mapR xs g = .ok ys → ys.length = xs.length
  | [], ys, h => by cases h; rfl
  | x :: xs, ys, h => by
    have h' : ((g x).calm.bind fun y => (mapR xs g).bind fun ys => .ok (y :: ys)) = .ok ys := h
    cases h1 : (g x).calm with
    | ok y =>
      rw [h1] at h'
      cases h2 : mapR xs g with
      | ok zs =>
        have h3 : (Res.ok (y :: zs)) = Res.ok ys := by rw [h2] at h'; exact h'
        cases h3
        exact congrArg (· + 1) (mapR_len h2)
      | exc e => rw [h2] at h'; cases h'
      | bad => rw [h2] at h'; cases h'
    | exc e => rw [h1] at h'; cases h'
    | bad => rw [h1] at h'; cases h'
def LcJ2 (B : Bd) (G : List Slot) (elt tg iter tg1 iter1 : Expr) (scope : Scope) (κ : Kd) (m : Res (List κ.ty.T)) : Prop := ∃ (wi : WX → TI) (g : TG) (wi1 : TI) (g1 : TG) (te : TE) (own : List (Str × Nat)) (vs1 : List Nat), (∀ i ∈ vs1, i ∈ own.map (·.2)) ∧ (∀ X W, CxOk B X → Takes X W → PI X tg iter (wi W) ∧ BlkOk X.N X.env.scope scope own ∧
    (∀ (s : Shared) (H : Hp) (C : Addr) (cl : List (Str × Addr)) (fp : List Addr), PG (X.blk s H scope (compEnvC scope cl C X.env) fp) tg g ∧ PI (X.blk s H scope (compEnvC scope cl C X.env) fp) tg1 iter1 wi1 ∧ PG (X.blk s H scope (compEnvC scope cl C X.env) fp) tg1 g1 ∧ PE (X.blk s H scope (compEnvC scope cl C X.env) fp) elt te)) ∧
  ∀ (W : WX) (xok : Exc → Prop) (σ : St) (H Hv : Hp) (Q : VK), View H Hv → VEnv B.K Hv G σ → XW B xok W σ H → (m.wp xok fun x => ∀ v H' Hv' S, Grow H Hv H' Hv' → (kL κ).rep B.K S H' Hv' v x → Fresh S H H' Hv' → Q v H') → tLc2 (wi W) g tYes wi1 g1 tYes te (own.map (·.2)) vs1 σ H Q
theorem pg_ex {X : Cx} {tg : Expr} {β : Type} {t : β → TG} (h : ∀ b, PG X tg (t b)) : PG X tg (fun v σ H Q => ∃ b, t b v σ H Q) := ⟨fun pins s σ H v u Q I r ⟨b, q⟩ => (h b).run pins s σ H v u Q I r q⟩
theorem pi_ex {X : Cx} {tg iter : Expr} {β : Type} {t : β → TI} (h : ∀ b, PI X tg iter (t b)) : PI X tg iter (fun σ H R => ∃ b, t b σ H R) := ⟨fun pins s σ H R I ⟨b, q⟩ => (h b).run pins s σ H R I q⟩
section
variable {B : Bd} {G : List Slot} {elt tg iter tg1 iter1 : Expr} {scope : Scope} {κ : Kd} {pos py spos : Pos} {n : Str} {rest : List Stmt} {α γ δ : Type} {bind : α → List Slot → List Slot} {bind1 : γ → List Slot → List Slot} {ixs ixs1 : List Nat} {mi : Res (List α)} {fin : δ → Fin}
theorem lcj2 (own : List (Str × Nat)) (vs1 : List Nat) {mi1 : α → Res (List γ)} {me : α → γ → Res κ.ty.T} (hb : blkC B.N B.sc scope own = true) (hi : PIJ B (lcB B scope) scope G tg iter mi bind ixs) (hx : ∀ j ∈ ixs, j ∈ own.map (·.2)) (hv : ∀ j ∈ vs1, j ∈ own.map (·.2))
    (hi1 : ∀ x, PIJ (lcB B scope) (lcB B scope) scope (bind x (wipeG G (own.map (·.2)))) tg1 iter1 (mi1 x) bind1 ixs1) (hx1 : ∀ j ∈ ixs1, j ∈ vs1)
    (he : ∀ x y, OJ (lcB B scope) (bind1 y (wipeG (bind x (wipeG G (own.map (·.2)))) vs1)) elt κ (me x y)) : LcJ2 B G elt tg iter tg1 iter1 scope κ (mi.bind fun xs => comp2R 0 xs mi1 me) := by
  obtain ⟨wi, g, i1, i2, i3⟩ := hi
  obtain ⟨wi1, hi1'⟩ := Classical.axiomOfChoice hi1
  obtain ⟨g1, hi1''⟩ := Classical.axiomOfChoice hi1'
  obtain ⟨te, he'⟩ := Classical.axiomOfChoice (fun xy : α × γ => he xy.1 xy.2)
  refine ⟨wi, g, fun σ H R => ∃ x, wi1 x W0 σ H R, fun v σ H Q => ∃ x, g1 x v σ H Q, fun σ H Q => ∃ xy, te xy W0 σ H Q, own, vs1, hv, fun X W ok tk => ⟨i1 X W ok tk, by rw [ok.N, ok.sc]; exact blkOk_by hb, fun s H C cl fp => ⟨?_, ?_, ?_, ?_⟩⟩, ?_⟩
  · exact i2 _ (blk_ok ok s H scope C cl fp) fun x => rfl
  · exact pi_ex fun x => (hi1'' x).1 _ W0 (blk_ok ok s H scope C cl fp) takes0
  · exact pg_ex fun x => (hi1'' x).2.1 _ (blk_ok ok s H scope C cl fp) fun x => rfl
  · exact pe_ex fun xy => (he' xy).1 _ W0 (blk_ok ok s H scope C cl fp) takes0
  intro W xok σ H Hv Q v ve xw q
  refine i3 W xok σ H Hv _ v ve xw (Res.wp_mono (Res.wp_bind.mp q) fun xs q1 J H1 Hv1 gr1 hsz it D hD => ?_)
  let Inv : Nat → Hp → Prop := fun i H2 => ∃ ys Hv2, AccAt B.K κ H1 Hv1 D ys H2 Hv2 ∧ ys.length ≤ sizeLine ∧ ((comp2R ys.length (xs.drop i) mi1 me).wp xok fun zs => ∀ v H' Hv' S, Grow H Hv H' Hv' → (kL κ).rep B.K S H' Hv' v (ys ++ zs) → Fresh S H H' Hv' → Q v H')
  refine ⟨fun i m H2 => m = xs.length - i ∧ i ≤ xs.length ∧ Inv i H2, ⟨_, rfl, Nat.zero_le _, [], Hv1, acc_new gr1.view hD, Nat.zero_le _, by simpa using q1⟩, ?_⟩
  rintro i m H2 ⟨rfl, hi', ys, Hv2, hacc, hyl, q2⟩
  have it2 := it H2 Hv2 (wipe σ (own.map (·.2))) (wipeG G (own.map (·.2))) hacc.view.view (((ve.mono gr1.up).mono hacc.view.up).wipe _) hacc.view.up i
  cases hxi : xs[i]? with
  | none =>
    have hle : xs.length ≤ i := List.getElem?_eq_none_iff.mp hxi
    rw [List.drop_of_length_le hle] at q2
    refine .inl ⟨it2.2 hxi, ?_⟩
    obtain ⟨S, k1, k2, k3⟩ := hacc.fin hD gr1 hyl
    have q3 : ∀ v H' Hv' S, Grow H Hv H' Hv' → (kL κ).rep B.K S H' Hv' v (ys ++ []) → Fresh S H H' Hv' → Q v H' := q2
    rw [List.append_nil] at q3
    exact q3 _ _ _ S k1 k2 k3
  | some x =>
    obtain ⟨hlt, hxe⟩ := List.getElem?_eq_some_iff.mp hxi
    obtain ⟨hgo, hy⟩ := it2.1 x hxi
    refine .inr ⟨hgo, Inv (i + 1), fun H3 h3 => ⟨_, by omega, rfl, hlt, h3⟩, fun u H3 hu => ?_⟩
    refine hy u H3 hu _ fun σ4 H4 Hv4 g4 ve4 hw => ⟨hw _ hx |>.trans (wipe_wipe σ _), ?_⟩
    show (∃ x, wi1 x W0 σ4 H4 _)
    refine ⟨x, (hi1'' x).2.2 W0 (fun _ => False) σ4 H4 Hv4 _ g4.view ve4 (fun _ z => z.elim) ?_⟩
    rw [List.drop_eq_getElem_cons hlt, hxe] at q2
    have q3 := Res.wp_bind.mp (show ((mi1 x).calm.bind fun zs => (gate (ys.length + zs.length ≤ sizeLine) ()).bind fun _ => (mapR zs (me x)).bind fun l => (comp2R (ys.length + zs.length) (xs.drop (i + 1)) mi1 me).bind fun r => .ok (l ++ r)).wp xok _ from q2)
    refine Res.wp_mono (Res.wp_calm q3) fun zs q4 J1 H5 Hv5 g5 hsz1 it1 => ?_
    have hgate : ys.length + zs.length ≤ sizeLine := by
      by_cases hg : ys.length + zs.length ≤ sizeLine
      · exact hg
      · unfold gate at q4; rw [if_neg hg] at q4; exact q4.elim
    rw [gate_ok hgate] at q4
    have q5 := Res.wp_bind.mp (show ((mapR zs (me x)).bind fun l => (comp2R (ys.length + zs.length) (xs.drop (i + 1)) mi1 me).bind fun r => .ok (l ++ r)).wp xok _ from q4)
    have hacc5 := (hacc.grow g4).grow g5
    let Inv1 : Nat → Hp → Prop := fun j H6 => ∃ ys2 Hv6, AccAt B.K κ H1 Hv1 D (ys ++ ys2) H6 Hv6 ∧ Same Hv5 Hv6 ∧ ys2.length = j ∧ ((mapR (zs.drop j) (me x)).wp xok fun l => (comp2R (ys.length + zs.length) (xs.drop (i + 1)) mi1 me).wp xok fun r => ∀ v H' Hv' S, Grow H Hv H' Hv' → (kL κ).rep B.K S H' Hv' v (ys ++ (ys2 ++ l ++ r)) → Fresh S H H' Hv' → Q v H')
    refine ⟨fun j k H6 => k = zs.length - j ∧ j ≤ zs.length ∧ Inv1 j H6, ⟨_, rfl, Nat.zero_le _, [], Hv5, by rw [List.append_nil]; exact hacc5, Same.refl _, rfl, ?_⟩, ?_⟩
    · refine Res.wp_mono q5 fun l k6 => Res.wp_mono (Res.wp_bind.mp k6) fun r k7 => ?_
      exact k7
    rintro j k H6 ⟨rfl, hj, ys2, Hv6, hacc6, s56, hj2, q6⟩
    have ve6 : VEnv B.K Hv6 (wipeG (bind x (wipeG G (own.map (·.2)))) vs1) (wipe σ4 vs1) := ((ve4.mono g5.up).mono s56).wipe vs1
    have it6 := it1 H6 Hv6 (wipe σ4 vs1) (wipeG (bind x (wipeG G (own.map (·.2)))) vs1) hacc6.view.view ve6 s56 j
    cases hzj : zs[j]? with
    | none =>
      have hle : zs.length ≤ j := List.getElem?_eq_none_iff.mp hzj
      rw [List.drop_of_length_le hle] at q6
      refine .inl ⟨it6.2 hzj, ys ++ ys2, Hv6, hacc6, by rw [List.length_append]; omega, ?_⟩
      have e1 : (ys ++ ys2).length = ys.length + zs.length := by rw [List.length_append]; omega
      rw [e1]
      have q7 : (comp2R (ys.length + zs.length) (xs.drop (i + 1)) mi1 me).wp xok fun r => ∀ v H' Hv' S, Grow H Hv H' Hv' → (kL κ).rep B.K S H' Hv' v (ys ++ (ys2 ++ [] ++ r)) → Fresh S H H' Hv' → Q v H' := q6
      refine Res.wp_mono q7 fun r k7 => ?_
      rw [List.append_nil, ← List.append_assoc] at k7
      exact k7
    | some z =>
      obtain ⟨hlt1, hze⟩ := List.getElem?_eq_some_iff.mp hzj
      obtain ⟨hgo1, hy1⟩ := it6.1 z hzj
      refine .inr ⟨hgo1, Inv1 (j + 1), fun H7 h7 => ⟨_, by omega, rfl, hlt1, h7⟩, fun u1 H7 hu1 => ?_⟩
      show (∃ x, g1 x u1 (wipe σ4 vs1) H7 _)
      refine ⟨x, hy1 u1 H7 hu1 _ fun σ8 H8 Hv8 g8 ve8 hw8 => ⟨hw8 _ hx1 |>.trans (wipe_wipe σ4 _), ?_⟩⟩
      show (∃ xy, te xy W0 σ8 H8 _)
      refine ⟨(x, z), (he' (x, z)).2 W0 (fun _ => False) σ8 H8 Hv8 _ g8.view ve8 (fun _ z => z.elim) ?_⟩
      rw [List.drop_eq_getElem_cons hlt1, hze] at q6
      refine Res.wp_mono (Res.wp_calm (Res.wp_bind.mp (show ((me x z).calm.bind fun y => (mapR (zs.drop (j + 1)) (me x)).bind fun ys => .ok (y :: ys)).wp xok _ from q6))) fun y q7 w H9 Hv9 S9 g9 r9 f9 => ?_
      have hacc8 := hacc6.grow g8
      obtain ⟨acc, k1, k2, k3⟩ := hacc8.push hD g9 r9 f9
      rw [List.length_append] at k2
      refine ⟨acc, k1, by rw [k2]; omega, ys2 ++ [y], Hv9, by rw [← List.append_assoc]; exact k3, (s56.trans g8.up).trans g9.up, by rw [List.length_append, hj2]; rfl, ?_⟩
      refine Res.wp_mono (Res.wp_bind.mp q7) fun l k8 => ?_
      have k9 : (comp2R (ys.length + zs.length) (xs.drop (i + 1)) mi1 me).wp xok fun r => ∀ v H' Hv' S, Grow H Hv H' Hv' → (kL κ).rep B.K S H' Hv' v (ys ++ (ys2 ++ (y :: l) ++ r)) → Fresh S H H' Hv' → Q v H' := k8
      have e2 : ys2 ++ y :: l = ys2 ++ [y] ++ l := by rw [List.append_assoc]; rfl
      rw [e2] at k9
      exact k9
theorem oj_lc2 {m : Res (List κ.ty.T)} (hN : B.N.Nodup) (hc : B.calm = true) (h : LcJ2 B G elt tg iter tg1 iter1 scope κ m) (hs : ∀ env x, foldedSetIterable iter env x = pure x := by intro _ _; rfl) (hs1 : ∀ env x, foldedSetIterable iter1 env x = pure x := by intro _ _; rfl) : OJ B G (.ListComp elt [⟨tg, iter, [], 0⟩, ⟨tg1, iter1, [], 0⟩] scope pos) (kL κ) m := by
  obtain ⟨wi, g, wi1, g1, te, own, vs1, hv, h1, h2⟩ := h
  refine ⟨fun W => tLc2 (wi W) g tYes wi1 g1 tYes te (List.map (fun (x : Str × Nat) => x.2) own) vs1, fun X W ok tk => ?_, h2⟩
  obtain ⟨p1, p2, p3⟩ := h1 X W ok tk
  exact pe_lc2 (ok.calm.trans hc) (by rw [ok.N]; exact hN) p1 p2 hv (fun s H C cl fp => (p3 s H C cl fp).1) (fun s H C cl fp => pts_nil) (fun s H C cl fp => (p3 s H C cl fp).2.1) (fun s H C cl fp => (p3 s H C cl fp).2.2.1) (fun s H C cl fp => pts_nil) (fun s H C cl fp => (p3 s H C cl fp).2.2.2) (hs X.env) hs1
end
end TM

set_option Elab.async false
set_option linter.all false
set_option maxRecDepth 100000
/-! TM27: what the text says, without a context. -/
namespace TM
open PySem L2
def MethG (P : Program) (w : World) (K : Fg) (mg : Str → Option Value) (base : Heap) (C : Addr) (j : Nat) (m : Str) (ps : List Str) (sp : Sp) : Prop := ∃ f fd, FnOk P w K mg base (L2.CX P w) j f fd ps sp ∧ Meth K C m f ∧ Binds K fd ps []
theorem methat {B : Bd} {C : Addr} {m : Str} {ps : List Str} {sp : Sp} (j : Nat) (h : MethG B.P B.w B.K B.mg B.base C j m ps sp) (c : Cls B.K C) (hj : j ≤ B.k) : MethAt B C m ps sp :=
  let ⟨f, fd, a, b, d⟩ := h
  ⟨⟨f, fd, j, hj, a, b, d⟩, c⟩
def MakeG (P : Program) (w : World) (K : Fg) (mg : Str → Option Value) (base : Heap) (C : Addr) (j : Nat) (n : Str) (ps : List Str) (sp : Sp) : Prop := (∃ fi fd, FnOk P w K mg base (L2.CX P w) j fi fd ps sp ∧ Mk K C fi ∧ Binds K fd ps []) ∧ mg n = some (.ref C)
theorem makeat {B : Bd} {C : Addr} {n : Str} {ps : List Str} {sp : Sp} (j : Nat) (h : MakeG B.P B.w B.K B.mg B.base C j n ps sp) (hj : j + 1 ≤ B.k) : MakeAt B n C ps sp :=
  let ⟨⟨fi, fd, a, b, c⟩, d⟩ := h
  ⟨⟨fi, fd, j, hj, a, b, c⟩, d⟩
/-- an own class of errors, no __init__ of its own, a ValueError at its root -/
def ExG (K : Fg) (mg : Str → Option Value) (n : Str) : Prop := ∃ C, mg n = some (.ref C) ∧ PySem.W.excIn K C [.type "ValueError", .type "Exception", .type "BaseException", .type "object"] "ValueError.__new__" = true ∧ PySem.W.keepIn K (.ref C) = true ∧ PySem.W.subIn K (.ref C) (.type "BaseException") = some true ∧ PySem.W.typeIn K (.ref C) = some (.type "type")
theorem exat {B : Bd} {n : Str} (h : ExG B.K B.mg n) : ExAt B n := ⟨h⟩
def ExMG (K : Fg) (mg : Str → Option Value) (D : Addr) (nm : Str) (b : Bool) : Prop := ∃ C, mg nm = some (.ref C) ∧ PySem.W.exmOne K (.ref C) (.ref D) = some b
def IsEG (K : Fg) (mg : Str → Option Value) (nm n : Str) (b : Bool) : Prop := ∃ C, mg nm = some (.ref C) ∧ ExcC K C ∧ ((∃ D, mg n = some (.ref D) ∧ PySem.W.kitOne K (.ref C) (.ref D) = some b) ∨ (∃ T, mg n = none ∧ bootBuiltins n = some (.type T) ∧ n ≠ "__name__" ∧ PySem.W.kitOne K (.ref C) (.type T) = some b))
section
variable {B : Bd} {G : List Slot} {e o : Expr} {pos p : Pos} {n : Str} {C : Addr} {T : Type} {flds : T → List (Str × FV)} {pin : Addr → Prop}
/-- an instance of one's own is read -/
theorem pj_vi (i : Nat) (x : T) (ho : nmOk B.N = true) (hN : B.N[i]? = some n) (hv : Vis B.sc n) (hg : G[i]? = some (some ⟨kIns pin C T flds, x⟩)) : PJ B G (.Name n pos) (tIns C T flds) (.ok x) :=
  pj_var (p := ⟨kIns pin C T flds, x⟩) i hg hN hv (nmOk_at ho hN).1 (nmOk_at ho hN).2
end
end TM

set_option Elab.async false
set_option linter.all false
set_option maxRecDepth 100000
/-! TM28: options; settled ifs; insert. -/
namespace TM
open PySem L2
theorem conv_some {τ : Ty} (s : NoN τ) {K : Fg} {H : Hp} {v : V} {x : τ.T} (h : τ.rep K H v x) : (tOpt τ).rep K H v (some x) := ⟨s h, h⟩
theorem conv_none {τ : Ty} {K : Fg} {H : Hp} {v : V} {x : Unit} (h : tNone.rep K H v x) : (tOpt τ).rep K H v none := h
section
variable {B : Bd} {G : List Slot} {e a b c : Expr} {τ σ : Ty} {κ : Kd} {pos pos' p apos cpos : Pos} {n : Str} {α β γ ζ : Type} {fin : α → Fin} {rest sa sb : List Stmt} {pin : Addr → Prop}
theorem pj_some {m : Res τ.T} (s : NoN τ) (h : PJ B G e τ m) : PJ B G e (tOpt τ) (m.bind fun x => .ok (some x)) := pj_conv (τ' := tOpt τ) some (fun h => conv_some s h) h
theorem pj_noneO (τ : Ty) {j} : PJ B G (.Constant .none j pos) (tOpt τ) (.ok none) := pj_const (v := .non) (fun X => pe_non) fun H => rfl
/-- if c: .. (it ends), and c is so -/
theorem bj_ifYT {m1 : Res β} {G1 : β → List Slot} {ma : β → Res ζ} {finz : ζ → Fin} {inj : ζ → α} (hc : ETJ B G c m1 G1 (fun _ => true)) (ha : ∀ s, BJ B (G1 s) sa (ma s) finz) (hz : ∀ z, (finz z).ends = true) (hi : ∀ z, fin (inj z) = finz z) :
    BJ B G (.If c sa [] pos :: rest) (m1.bind fun s => (ma s).map inj) fin := fun X W ok tk => by
  refine pss_imp (pss_cons (ps_if (hc X W ok.toCxOk tk) (pss_ex fun s => ha s X W ok tk) pss_nil) pss_never) fun D σ H ⟨f, xok, Hs, xs, env, q⟩ => ?_
  refine ⟨f, xok, [], [], Hs, xs, env, Res.wp_mono (Res.wp_bind.mp q) fun s k H' Hs' env' => ?_⟩
  refine ⟨s, f, xok, Hs', xs, env', Res.wp_mono (Res.wp_bind.mp k) fun z kz => ?_⟩
  have kz' : FinOk B.K f D (fin (inj z)) := kz
  rw [hi z] at kz'
  exact kz'.nx_any (hz z)
/-- if c: .. else: .., both end -/
theorem bj_ifB {m1 : Res β} {G1 : β → List Slot} {b : β → Bool} {ma mb : β → Res ζ} {finz : ζ → Fin} {inj : ζ → α} (hc : ETJ B G c m1 G1 b) (ha : ∀ s, BJ B (G1 s) sa (ma s) finz) (hb : ∀ s, BJ B (G1 s) sb (mb s) finz) (hz : ∀ z, (finz z).ends = true) (hi : ∀ z, fin (inj z) = finz z) :
    BJ B G (.If c sa sb pos :: rest) (m1.bind fun s => if b s = true then (ma s).map inj else (mb s).map inj) fin := fun X W ok tk => by
  refine pss_imp (pss_cons (ps_if (hc X W ok.toCxOk tk) (pss_ex fun s => ha s X W ok tk) (pss_ex fun s => hb s X W ok tk)) pss_never) fun D σ H ⟨f, xok, Hs, xs, env, q⟩ => ?_
  refine ⟨f, xok, [], [], Hs, xs, env, Res.wp_mono (Res.wp_bind.mp q) fun s k H' Hs' env' => ?_⟩
  have fz : ∀ z, FinOk B.K f D (fin (inj z)) → FinOk B.K f { D with nx := tNever D } (finz z) := fun z kz => by
    rw [hi z] at kz
    exact kz.nx_any (hz z)
  cases hbs : b s with
  | true =>
    rw [hbs] at k
    exact ⟨s, f, xok, Hs', xs, env', Res.wp_mono (Res.wp_bind.mp (show ((ma s).map inj).wp xok _ from k)) fun z kz => fz z kz⟩
  | false =>
    rw [hbs] at k
    exact ⟨s, f, xok, Hs', xs, env', Res.wp_mono (Res.wp_bind.mp (show ((mb s).map inj).wp xok _ from k)) fun z kz => fz z kz⟩
/-! is True, of a bool or None -/
def vOB : Option Bool → V
  | none => .non
  | some b => .bl b
theorem ob_rep {K : Fg} {H : Hp} {v : V} {x : Option Bool} (h : (tOpt tBool).rep K H v x) : v = vOB x := by
  cases x with
  | none => exact h
  | some b => exact h.2
def rIsOB (k : Bool) : R2 := fun x y H Q => ∃ (a : Option Bool) (b : Bool), x = vOB a ∧ y = .bl b ∧ Q (.bl (eqb k a (some b))) H
theorem isOB {X : Cx} {op : CmpOp} {k : Bool} (h : IsOpK op k) : OpR X (compareOp op) (rIsOB k) := by
  intro pins s σ H x y v u Q I rx ry hh
  obtain ⟨a, b, rfl, rfl, q⟩ := hh
  cases a with
  | some a =>
    have := (h.rule X) pins s σ H _ _ v u Q I rx ry ⟨a, b, rfl, rfl, ?_⟩
    · exact this
    · have : eqb k (some a) (some b) = eqb k a b := by
        unfold eqb
        simp
      rw [← this]; exact q
  | none =>
    cases rx
    cases ry
    cases h
    · exact wpAny_is_other rfl (fun z => by cases z) ⟨.bl false, H, I, rfl, q⟩
    · exact wpAny_isNot_other rfl (fun z => by cases z) ⟨.bl true, H, I, rfl, q⟩
theorem pj_isOB {op : CmpOp} {k : Bool} (ho : IsOpK op k) {ma : Res (Option Bool)} {mb : Res Bool} (ha : PJ B G a (tOpt tBool) ma) (hb : PJ B G b tBool mb) : PJ B G (.Compare a [op] [b] pos) tBool (ma.bind fun x => mb.bind fun y => .ok (eqb k x (some y))) :=
  pj_cmp (ρ := tOpt tBool) (σ := tBool) (τ := tBool) (r := rIsOB k) (g := fun (x : Option Bool) (y : Bool) => Res.ok (eqb k x (some y))) (fun X _ => isOB ho) ho.nb (fun H Hv v w x y Q vw r1 r2 z e q => by
    cases e
    exact ⟨x, y, ob_rep r1, r2, q _ H Hv (Grow.refl vw) (by exact rfl)⟩) (fun _ _ _ h => by cases h) ha hb
/-! pairs, triples of one type as tuples -/
theorem rep_t2 {K : Fg} {H : Hp} {v : V} {x : τ.T × τ.T} (h : (tT2 τ τ).rep K H v x) : (tTup τ).rep K H v [x.1, x.2] := by
  obtain ⟨a, u, w, h1, h2, h3, h4⟩ := h
  exact ⟨a, [u, w], h1, h2, by show 2 ≤ sizeLine; decide, .cons h3 (.cons h4 .nil)⟩
theorem rep_t3 {K : Fg} {H : Hp} {v : V} {x : τ.T × τ.T × τ.T} (h : (tT3 τ τ τ).rep K H v x) : (tTup τ).rep K H v [x.1, x.2.1, x.2.2] := by
  obtain ⟨a, u, w, z, h1, h2, h3, h4, h5⟩ := h
  exact ⟨a, [u, w, z], h1, h2, by show 3 ≤ sizeLine; decide, .cons h3 (.cons h4 (.cons h5 .nil))⟩
theorem pj_t2L {m : Res (τ.T × τ.T)} (h : PJ B G e (tT2 τ τ) m) : PJ B G e (tTup τ) (m.bind fun x => .ok [x.1, x.2]) := pj_conv (τ := tT2 τ τ) (τ' := tTup τ) (fun x => [x.1, x.2]) (fun h => rep_t2 h) h
theorem pj_t3L {m : Res (τ.T × τ.T × τ.T)} (h : PJ B G e (tT3 τ τ τ) m) : PJ B G e (tTup τ) (m.bind fun x => .ok [x.1, x.2.1, x.2.2]) := pj_conv (τ := tT3 τ τ τ) (τ' := tTup τ) (fun x => [x.1, x.2.1, x.2.2]) (fun h => rep_t3 h) h
/-! xs.insert(i, e) -/
end
end TM

set_option Elab.async false
set_option linter.all false
set_option maxRecDepth 100000
/-! TM29: tests with is. -/
namespace TM
open PySem L2
section
variable {B : Bd} {G : List Slot} {e a b : Expr} {τ σ : Ty} {pos p : Pos} {n : Str}
theorem tj_isN0 {ma : Res τ.T} {j p} (s : NoN τ) (ha : PJ B G a τ ma) : TJ B G (.Compare a [.Is] [.Constant .none j p] pos) (ma.bind fun x => .ok false) :=
  (tj_cmp (σ := tNone) (g := fun (x : τ.T) _ => .ok false) (r := fun x y H Q => y = .non ∧ Q (.bl (decide (x = .non))) H) (fun X ok => op_isN) (nobehind _ (by decide) (by decide)) (fun H Hv v w x y Q vw r1 r2 z e q => by
    cases e
    refine ⟨r2, ?_⟩
    exact q _ H Hv (Grow.refl vw) (by rw [decide_eq_false (s r1)])) (fun _ _ _ h => by cases h) ha pj_none).cast (by cases ma <;> rfl)
theorem tj_isN {ma : Res (Option τ.T)} {j p} (ha : PJ B G a (tOpt τ) ma) : TJ B G (.Compare a [.Is] [.Constant .none j p] pos) (ma.bind fun x => .ok x.isNone) :=
  (tj_cmp (σ := tNone) (g := fun (x : Option τ.T) _ => .ok x.isNone) (r := fun x y H Q => y = .non ∧ Q (.bl (decide (x = .non))) H) (fun X ok => op_isN) (nobehind _ (by decide) (by decide)) (fun H Hv v w x y Q vw r1 r2 z e q => by
    cases e
    refine ⟨r2, ?_⟩
    cases x with
    | none =>
      obtain rfl : v = .non := r1
      exact q _ H Hv (Grow.refl vw) rfl
    | some x => exact q _ H Hv (Grow.refl vw) (by rw [decide_eq_false r1.1]; rfl)) (fun _ _ _ h => by cases h) ha pj_none).cast (by cases ma <;> rfl)
theorem tj_notN {ma : Res (Option τ.T)} {j p} (ha : PJ B G a (tOpt τ) ma) : TJ B G (.Compare a [.IsNot] [.Constant .none j p] pos) (ma.bind fun x => .ok x.isSome) :=
  (tj_cmp (σ := tNone) (g := fun (x : Option τ.T) _ => .ok x.isSome) (r := fun x y H Q => y = .non ∧ Q (.bl (!decide (x = .non))) H) (fun X ok => op_notN) (nobehind _ (by decide) (by decide)) (fun H Hv v w x y Q vw r1 r2 z e q => by
    cases e
    refine ⟨r2, ?_⟩
    cases x with
    | none =>
      obtain rfl : v = .non := r1
      exact q _ H Hv (Grow.refl vw) rfl
    | some x => exact q _ H Hv (Grow.refl vw) (by rw [decide_eq_false r1.1]; rfl)) (fun _ _ _ h => by cases h) ha pj_none).cast (by cases ma <;> rfl)
theorem tj_isB {op : CmpOp} {k : Bool} (ho : IsOpK op k) {ma mb : Res Bool} (ha : PJ B G a tBool ma) (hb : PJ B G b tBool mb) : TJ B G (.Compare a [op] [b] pos) (ma.bind fun x => mb.bind fun y => .ok (eqb k x y)) :=
  tj_cmp (fun X _ => ho.rule X) ho.nb (fun H Hv v w x y Q vw r1 r2 z e q => by
    cases e
    exact ⟨x, y, r1, r2, q _ H Hv (Grow.refl vw) rfl⟩) noexc ha hb
theorem tj_isOB {op : CmpOp} {k : Bool} (ho : IsOpK op k) {ma : Res (Option Bool)} {mb : Res Bool} (ha : PJ B G a (tOpt tBool) ma) (hb : PJ B G b tBool mb) : TJ B G (.Compare a [op] [b] pos) (ma.bind fun x => mb.bind fun y => .ok (eqb k x (some y))) :=
  tj_cmp (ρ := tOpt tBool) (σ := tBool) (r := rIsOB k) (g := fun (x : Option Bool) (y : Bool) => Res.ok (eqb k x (some y))) (fun X _ => isOB ho) ho.nb (fun H Hv v w x y Q vw r1 r2 z e q => by
    cases e
    exact ⟨x, y, ob_rep r1, r2, q _ H Hv (Grow.refl vw) (by exact rfl)⟩) (fun _ _ _ h => by cases h) ha hb
/-- an instance that is read -/
theorem pj_vc {C : Addr} {T : Type} {flds : T → List (Str × FV)} (i : Nat) (x : T) (ho : nmOk B.N = true) (hN : B.N[i]? = some n) (hv : Vis B.sc n) (hg : G[i]? = some (sv (tIns C T flds) x)) : PJ B G (.Name n pos) (tIns C T flds) (@Res.ok T x) :=
  pj_vv (tIns C T flds) i x ho hN hv hg
/-- the exception that a suite holds is read -/
theorem pj_ve {mg : Str → Option Value} {ex : Exc} {cls : Value} {d : Option Addr} {ea : Addr} (i : Nat) (ho : nmOk B.N = true) (hN : B.N[i]? = some n) (hv : Vis B.sc n) (hg : G[i]? = some (sv (tExc mg ex cls d ea) ())) : PJ B G (.Name n pos) (tExc mg ex cls d ea) (@Res.ok Unit ()) :=
  pj_vv (tExc mg ex cls d ea) i () ho hN hv hg
/-- an argument that is an instance -/
theorem aj_consC {C : Addr} {T γ : Type} {flds : T → List (Str × FV)} {es : List Expr} {ma : Res T} {mr : Res γ} {out : γ → List (Σ τ : Ty, τ.T)} (ha : PJ B G e (tIns C T flds) ma) (hr : AJ B G es mr out) (hs : ∀ env, starEach (e :: es) env = (false, eval e env) :: starEach es env := by intro _; rfl) :
    AJ B G (e :: es) (@Res.bind T (T × γ) ma fun x => mr.bind fun c => .ok (x, c)) (fun c => ⟨tIns C T flds, c.1⟩ :: out c.2) := aj_cons (τ := tIns C T flds) ha hr hs
end
end TM

set_option Elab.async false
set_option linter.all false
set_option maxRecDepth 100000
/-! TM30: calls that change a list, the other arguments stable: any result. -/
namespace TM
open PySem L2
section
variable {B : Bd} {G : List Slot} {τ : Ty} {κ κr : Kd} {pos p q : Pos} {β γ A : Type} {pin : Addr → Prop} {n x : Str} {es : List Expr} {ps : List Str} {xs : List κ.ty.T}
theorem ej_callMS (i : Nat) {Gp : (Nat → Addr) → A → List Slot} {F : A → Res β} {Gr : (Nat → Addr) → β → List Slot} {zs : β → List κ.ty.T} {y : β → κr.ty.T} {k : Nat} {ma : Res γ} {out : γ → List (Σ τ : Ty, τ.T)} {arg : γ → A}
    (fn : FnAt B n ps (SpOf B.K B.mg k Gp F (fun pn b => some ⟨kLP (fun q => q = pn 0) κ, zs b⟩ :: Gr pn b) κr y)) (hgl : B.sc.names.lookup n = some .globalImplicit)
    (hi : B.N[i]? = some x) (hv : Vis B.sc x) (hg : G[i]? = some (some ⟨kLP pin κ, xs⟩)) (ha : AJ B (stab G) es ma out) (hs : ∀ pn c, Gp pn (arg c) = some ⟨kLP (fun q => q = pn 0) κ, xs⟩ :: svs (out c)) (hk : ∀ c, (out c).length + 1 = k)
    (hd : (x == ("__debug__" : Str)) = false := by decide) (hcd : (x == ("__classdict__" : Str)) = false := by decide)
    (hdb : (n == ("__debug__" : Str)) = false := by decide) (he : ∀ env, starEach (.Name x q :: es) env = (false, eval (.Name x q) env) :: starEach es env := by intro _; rfl) (hpl : ∀ env, (backTo pos (starEach es env)).any (·.1) = false := by intro _; rfl) (hcalm : B.calm = true := by rfl) :
    EJ B G (.Call (.Name n p) (.Name x q :: es) [] pos) (ma.bind fun c => F (arg c)) (fun b => G.set i (some ⟨kLP pin κ, zs b⟩)) κr y := fun X W ok tk => by
  obtain ⟨f, fd, j, hj, fo, hm, hkp, hb⟩ := fn.ex
  obtain ⟨ta, a1, a2⟩ := ha
  refine pe_imp (pe_callS (ok.fn fo) ((ok.room hcalm).mono hj) (by show X.env.scope.names.lookup n = _; rw [ok.sc]; exact hgl) (by rw [ok.mg]; exact hm) (by rw [ok.K]; exact hkp) (by rw [ok.K]; exact hb)
    (fun σ => passAt tk σ) (pa_cons (pe_var (i := i) (by rw [ok.N]; exact hi) (by rw [ok.sc]; exact hv) hd hcd) (a1 X W ok tk) (he X.env)) hdb (he X.env) (hpl X.env)) fun σ H Q ⟨fr, xok, D, vs, Hs, xss, env, q⟩ => ?_
  obtain ⟨p0, us, SG, SD, Ss, e1, e2, e3, hpin, e4, e5, a, b, o⟩ := env.own (E := none) hg
  have inA : ∀ c ∈ p0 :: Ss.flatten, c ∈ SD.flatten ++ SG.flatten := fun c m => List.mem_append_right _ (List.mem_flatten.mpr ⟨_, List.mem_of_getElem? e5, m⟩)
  refine ⟨_, e1, ?_⟩
  refine a2 W xok σ H _ _ env.view env.vstab (xss.xw env) (Res.wp_mono (Res.wp_bind.mp q) fun c k2 ws H1 Hv1 g1 rs => ?_)
  have o1 := o.grown g1
  have hsv : ∀ c ∈ p0 :: Ss.flatten, Hv1 c = none := fun c m => o1.sep c (inA c m)
  have a1' : Sls B.K H1 Hv1 SG σ G := a.keep (fun c _ u e => g1.same c u e) g1.up
  have b1' : Sls B.K H1 Hv1 SD (vs.map some) D := b.keep (fun c _ u e => g1.same c u e) g1.up
  have hel : Els (fun S v x => κ.rep B.K S H1 Hv1 v x) Ss us xs := e4.imp fun S v x _ r => κ.keep r (fun c _ u e => g1.same c u e) g1.up
  refine ⟨by rw [List.length_cons, rs.len2]; exact hk c, fun _ => p0, arg c, p0 :: Ss.flatten, Hv1, xok, ?_, ?_, ?_⟩
  · rw [hs]
    exact call_start o1 e5 (g1.same _ _ e2) e3 hel g1.view (Same.refl _) hsv rs
  · refine fun ex hx cls d H' s r => xss ex hx σ cls d H' (fun c u e n => s c u (g1.same c u (env.pres c u e n)) fun m => ?_) r
    rcases o.orig c (inA c m) with z | z
    · exact n z
    · rw [z] at e; cases e
  · refine Res.wp_mono k2 fun bb k3 u σ' H' Hs' env' => ?_
    obtain ⟨Hs2, env2⟩ := call_back a1' b1' o1 e5 e1 hpin (.inr (Same.refl _)) hsv env'
    exact k3 u H' Hs2 env2
theorem ej_callES (i : Nat) {e : Expr} {Gp : (Nat → Addr) → A → List Slot} {F : A → Res β} {Gr : (Nat → Addr) → β → List Slot} {zs : β → List κ.ty.T} {y : β → κr.ty.T} {m1 : Res γ} {G1 : γ → List Slot} {v : γ → τ.T} {arg : γ → A} {xs : γ → List κ.ty.T} {xs0 : List κ.ty.T}
    (fn : FnAt B n ps (SpOf B.K B.mg 2 Gp F (fun pn b => some ⟨kLP (fun q => q = pn 0) κ, zs b⟩ :: Gr pn b) κr y)) (hf : τ.Flat) (hgl : B.sc.names.lookup n = some .globalImplicit)
    (hi : B.N[i]? = some x) (hv : Vis B.sc x) (hg0 : G[i]? = some (some ⟨kLP pin κ, xs0⟩)) (he : EJ B G e m1 G1 (kVal τ) v) (hg : ∀ c, (G1 c)[i]? = some (some ⟨kLP pin κ, xs c⟩)) (hs : ∀ pn c, Gp pn (arg c) = [some ⟨kLP (fun q => q = pn 0) κ, xs c⟩, sv τ (v c)])
    (hd : (x == ("__debug__" : Str)) = false := by decide) (hcd : (x == ("__classdict__" : Str)) = false := by decide)
    (hdb : (n == ("__debug__" : Str)) = false := by decide) (hst : ∀ env, starEach [.Name x q, e] env = (false, eval (.Name x q) env) :: starEach [e] env := by intro _; rfl) (hst1 : ∀ env, starEach [e] env = (false, eval e env) :: starEach [] env := by intro _; rfl) (hpl : ∀ env, (backTo pos (starEach [e] env)).any (·.1) = false := by intro _; rfl) (hcalm : B.calm = true := by rfl) :
    EJ B G (.Call (.Name n p) [.Name x q, e] [] pos) (m1.bind fun c => (F (arg c)).bind fun b => .ok (c, b)) (fun r => (G1 r.1).set i (some ⟨kLP pin κ, zs r.2⟩)) κr fun r => y r.2 := fun X W ok tk => by
  obtain ⟨f, fd, j, hj, fo, hm, hkp, hb⟩ := fn.ex
  refine pe_imp (pe_callS (ok.fn fo) ((ok.room hcalm).mono hj) (by show X.env.scope.names.lookup n = _; rw [ok.sc]; exact hgl) (by rw [ok.mg]; exact hm) (by rw [ok.K]; exact hkp) (by rw [ok.K]; exact hb)
    (fun σ => passAt tk σ) (pa_cons (pe_var (i := i) (by rw [ok.N]; exact hi) (by rw [ok.sc]; exact hv) hd hcd) (pa_cons (he X W ok tk) pa_nil (hst1 X.env)) (hst X.env)) hdb (hst X.env) (hpl X.env)) fun σ H Q ⟨fr, xok, D, vs, Hs, xss, env, q⟩ => ?_
  obtain ⟨p0, us0, e1, _⟩ := own_var env hg0
  refine ⟨_, e1, fr, xok, D, vs, Hs, xss, env, Res.wp_mono (Res.wp_bind.mp q) fun c k1 w H1 Hs1 env1 => ?_⟩
  have hw : ∀ Hx, τ.rep B.K Hx w (v c) := fun Hx => by
    obtain ⟨_, SD, _, bb, _⟩ := id env1
    cases SD with
    | nil => exact bb.elim
    | cons S SD =>
      obtain ⟨w, ew, _, r⟩ := bb.1
      cases ew
      exact hf r
  have env2 := env1.pop
  obtain ⟨p1, us, SG, SD, Ss, f1, e2, e3, hpin, e4, e5, a, b, o⟩ := env2.own (E := none) (hg c)
  rw [e1] at f1
  cases f1
  have inA : ∀ d ∈ p0 :: Ss.flatten, d ∈ SD.flatten ++ SG.flatten := fun d m => List.mem_append_right _ (List.mem_flatten.mpr ⟨_, List.mem_of_getElem? e5, m⟩)
  have hsv : ∀ d ∈ p0 :: Ss.flatten, Hs1 d = none := fun d m => o.sep d (inA d m)
  refine ⟨rfl, fun _ => p0, arg c, p0 :: Ss.flatten, Hs1, xok, ?_, ?_, ?_⟩
  · rw [hs]
    exact call_start (out := [⟨τ, v c⟩]) (ws := [w]) o e5 e2 e3 e4 o.view (Same.refl _) hsv ⟨hw _, trivial⟩
  · refine fun ex hx cls d H' s r => xss ex hx σ cls d H' (fun d u e n => s d u (env2.pres d u e n) fun m => ?_) r
    rcases o.orig d (inA d m) with z | z
    · exact n z
    · rw [z] at e; cases e
  · refine Res.wp_mono (Res.wp_bind.mp k1) fun bb k3 u σ' H' Hs' env' => ?_
    obtain ⟨Hs2, env3⟩ := call_back a b o e5 e1 hpin (.inr (Same.refl _)) hsv env'
    exact k3 u H' Hs2 env3
end
section
variable {B : Bd} {G : List Slot} {e : Expr} {pos p1 : Pos} {α ζ : Type} {fin : α → Fin} {rest : List Stmt} {hds : List ExceptHandler}
/-- try: C(..) except .. -/
theorem bj_tryC {C : Addr} {T : Type} {flds : T → List (Str × FV)} {m : Res T} {h : Exc → Res ζ} {finz : ζ → Fin} {inj : ζ → α} {mr : Res α} {h0 : ExceptHandler} (hsx : ∀ X, B.sx X) (he : PJ B G e (tIns C T flds) m) (hh : HdJ B G (h0 :: hds) h finz) (hz : ∀ z, ∃ G κ x, finz z = .rt G κ x) (hi : ∀ z, fin (inj z) = finz z) (hr : BJ B G rest mr fin) (hsw : ∀ env, swapsWith e none p1.line env = pure false := by intro _; rfl) :
    BJ B G (.Try [.Expr e p1] (h0 :: hds) [] [] pos :: rest) (tryE (α := α) (β := T) m mr fun ex => (h ex).map inj) fin := bj_tryE (τ := tIns C T flds) hsx he hh hz hi hr hsw
end
end TM

set_option Elab.async false
set_option linter.all false
set_option maxRecDepth 100000
/-! TM31: a made instance as something of one's own. -/
namespace TM
open PySem L2
def AllImm : List (Str × FV) → Prop
  | [] => True
  | p :: l => p.2.1.Imm ∧ AllImm l
theorem AllImm.at : ∀ {l : List (Str × FV)} {f : Str} {p : FV}, AllImm l → l.lookup f = some p → p.1.Imm
  | [], _, _, _, h => by cases h
  | (g, q) :: l, f, p, a, h => by
    rw [List.lookup_cons] at h
    by_cases e : f == g
    · rw [e] at h
      cases h
      exact a.1
    · have e' : (f == g) = false := by simpa using e
      rw [e'] at h
      exact AllImm.at a.2 h
theorem imm_kIns {pin : Addr → Prop} {C : Addr} {T : Type} {flds : T → List (Str × FV)} (h : ∀ x, AllImm (flds x)) : (kIns pin C T flds).Imm := fun e ⟨a, dx, fs, h1, h0, h2, h3, h6, h4, h5⟩ =>
  ⟨a, dx, fs, h1, h0, h2, h3, h6, fun f p hp => let ⟨u, k1, k2⟩ := h4 f p hp; ⟨u, k1, AllImm.at (h _) hp e k2⟩, h5⟩
section
variable {B : Bd} {G : List Slot} {e o a b value : Expr} {es : List Expr} {τ σ ρ : Ty} {κ : Kd} {pos p cpos apos pos' : Pos} {n m f : Str} {C : Addr} {T T' : Type} {pin : Addr → Prop} {flds : T → List (Str × FV)} {rest : List Stmt} {α β γ A : Type} {fin : α → Fin}
theorem oj_make {ps : List Str} {Gp : (Nat → Addr) → A → List Slot} {F : A → Res β} {Gr : (Nat → Addr) → β → List Slot} {k : Nat} {ma : Res γ} {out : γ → List FV} {arg : γ → A} {T1 : Type} {f1 : T1 → List (Str × FV)} {x1 : β → T1} {y : β → T}
    (fn : MakeAt B n C ps (SpOf B.K B.mg k Gp F (fun pn b => some ⟨kIns (fun q => q = pn 0) C T1 f1, x1 b⟩ :: Gr pn b) (kVal tNone) fun _ => ())) (hfl : ∀ b, f1 (x1 b) = flds (y b))
    (hg : B.sc.names.lookup n = some .globalImplicit) (ha : AJ B G (e :: es) ma out) (hs : ∀ pn c, Gp pn (arg c) = some ⟨kIns (fun q => q = pn 0) C Unit (fun _ => []), ()⟩ :: svs (out c)) (hk : ∀ c, (out c).length + 1 = k)
    (hdb : (n == ("__debug__" : Str)) = false := by decide) (he : ∀ env, starEach (e :: es) env = (false, eval e env) :: starEach es env := by intro _; rfl) (hpl : ∀ env, (backTo pos (starEach es env)).any (·.1) = false := by intro _; rfl) (hcalm : B.calm = true := by rfl) :
    OJ B G (.Call (.Name n p) (e :: es) [] pos) (kIns (fun _ => True) C T flds) (@Res.bind γ T ma fun c => @Res.bind β T (F (arg c)) fun b => @Res.ok T (y b)) := by
  obtain ⟨⟨fi, fd, j, hj, fo, hM, hb⟩, hat⟩ := fn
  obtain ⟨ta, a1, a2⟩ := ha
  refine ⟨fun W => fun σ H Q => ta W σ H fun vs H1 => ∀ x dx, H1 x = none → H1 dx = none → dx ≠ x → SpOf B.K B.mg k Gp F (fun pn b => some ⟨kIns (fun q => q = pn 0) C T1 f1, x1 b⟩ :: Gr pn b) (kVal tNone) (fun _ => ()) (.ref x :: vs) (upd (upd H1 dx (.own x)) x (.ins C dx [])) (fun v H2 => v = .non ∧ Q (.ref x) H2) (WE W σ), fun X W ok tk => ?_, fun W xok st H Hv Q v ve xw q => ?_⟩
  · refine ⟨fun pins s σ H Q I h => ?_⟩
    refine wpAny_Call_Name_kw (ld_glob I (by show X.env.scope.names.lookup n = _; rw [ok.sc]; exact hg) (by rw [ok.mg]; exact hat) ?_ hdb)
    refine PySem.W.callWith_K (h₀ := X.base) I.ok.mod.kin (by rw [ok.K]; exact hM.kp) (thn ((a1 X W ok tk).run pos pins s σ H _ I h) fun us s1 ⟨vs, H1, I1, r, q⟩ => ⟨I1.kIn, ?_⟩) (he X.env) (hpl X.env)
    exact run_makeS (by rw [ok.K]; exact hM) (ok.fn fo) ((ok.room hcalm).mono hj) (by rw [ok.K]; exact hb) (passAt tk σ) I1 r q
  · refine a2 W xok st H Hv _ v ve xw (Res.wp_mono (Res.wp_bind.mp q) fun c k2 vs H1 Hv1 g1 rs => ?_)
    intro x dx hx hdx hne
    have hxv : Hv1 x = none := by
      cases q : Hv1 x with
      | none => rfl
      | some u => rw [g1.view.sub _ _ q] at hx; cases hx
    have g2 := Grow.new (o := .own x) g1.view hdx
    have hx2 : (upd H1 dx (.own x)) x = none := by rw [upd_ne (Ne.symm hne)]; exact hx
    have hxv2 : (upd Hv1 dx (.own x)) x = none := by rw [upd_ne (Ne.symm hne)]; exact hxv
    have g3 := Grow.newOwn (o := .ins C dx []) g2.view hx2 trivial
    have g23 := g2.trans g3
    refine ⟨by rw [List.length_cons, rs.len2]; exact hk c, fun _ => x, arg c, [x], upd Hv1 dx (.own x), xok, ?_, ?_, ?_⟩
    · rw [hs]
      refine ⟨[x] :: List.replicate vs.length [], [], ⟨⟨_, rfl, x, dx, [], rfl, rfl, rfl, upd_same, Nat.le_refl _, fun f p h => (by cases h), fun f h => rfl⟩, sls_of (Els2.imp2 rs fun v p r => p.1.mono g2.up r)⟩, trivial, ?_⟩
      rw [List.flatten_cons, flatten_nils, List.append_nil]
      exact ⟨List.nodup_cons.mpr ⟨List.not_mem_nil, .nil⟩, fun a m => .inl m, fun a m => by rw [List.mem_singleton.mp m]; exact ⟨_, upd_same, trivial⟩, g3.view, fun a m => by rw [List.mem_singleton.mp m]; exact hxv2, Same.refl _, fun _ _ e => .inl e, fun _ _ e _ => e, fun _ _ e => ⟨_, e⟩⟩
    · exact fun ex hx' cls d H' s r => (xw.mono g1.same) ex hx' cls d H' (fun b o e => s b o (g23.same b o e) fun m => by rw [List.mem_singleton.mp m] at e; rw [hx] at e; cases e) r
    · refine Res.wp_mono (Res.wp_bind.mp k2) fun b k3 u σ' H' Hs' env => ?_
      obtain ⟨SG, SD, a, bb, o⟩ := env
      cases SG with
      | nil => cases σ' <;> exact a.elim
      | cons S SG =>
        cases σ' with
        | nil => exact a.elim
        | cons ov σ' =>
          obtain ⟨w, rfl, x0, dx0, fs, rfl, rfl, rfl, h3, h6, h4, h5⟩ := a.1
          cases SD with
          | nil => exact bb.elim
          | cons Sr SD =>
            obtain ⟨w, ew, hSr, hw⟩ := bb.1
            cases ew
            refine ⟨hw, ?_⟩
            have hno : ∀ a, a ∈ ([x0] : List Addr) → Hs' a = none := fun a m => o.sep a (by rw [List.flatten_cons, List.flatten_cons]; exact List.mem_append_right _ (List.mem_append_left _ m))
            refine k3 (.ref x0) H' Hs' [x0] ⟨fun a u e => ?_, o.view, (g1.up.trans g2.up).trans o.grow, fun a u e => ?_⟩ ⟨x0, dx0, fs, rfl, trivial, rfl, h3, by rw [← hfl]; exact h6, fun f p hp => by rw [← hfl] at hp; exact h4 f p hp, fun f hp => by rw [← hfl] at hp; exact h5 f hp⟩
              ⟨List.nodup_cons.mpr ⟨List.not_mem_nil, .nil⟩, fun a m => by rw [List.mem_singleton.mp m]; exact g1.same.free hx, fun a m => by rw [List.mem_singleton.mp m]; exact ⟨_, h3, trivial⟩, fun a m => hno a m⟩
            · exact o.pres a u (g23.same a u (g1.same a u e)) fun m => by rw [List.mem_singleton.mp m] at e; rw [g1.same _ _ e] at hx; cases hx
            · by_cases q : a = x0
              · rw [q, hno x0 (List.mem_singleton.mpr rfl)] at e; cases e
              · rcases o.fresh a u e with z | z | z
                · by_cases qd : a = dx
                  · rw [qd]; exact .inr (g1.same.free hdx)
                  · have z' : (upd Hv1 dx (.own x0)) a = some u := z
                    rw [upd_ne qd] at z'
                    exact g1.fresh a u z'
                · have z' : (upd (upd H1 dx (.own x0)) x0 (.ins C dx [])) a = none := z
                  rw [upd_ne q] at z'
                  by_cases qd : a = dx
                  · rw [qd]; exact .inr (g1.same.free hdx)
                  · rw [upd_ne qd] at z'; exact .inr (g1.same.free z')
                · exact absurd (List.mem_singleton.mp z) q
end
end TM

set_option Elab.async false
set_option linter.all false
set_option maxRecDepth 100000
/-! TM32: an if whose branches know its answer. -/
namespace TM
open PySem L2
section
variable {B : Bd} {G G' : List Slot} {e c : Expr} {pos pos' : Pos} {rest sa sb body : List Stmt} {α β ζ : Type} {fin : α → Fin}
theorem bj_ifJF {γ : Type} {m1 : Res γ} {G1 : γ → List Slot} {b : γ → Bool} {ma mb : γ → Res β} {g : β → List Slot} {mr : β → Res α} (hc : ETJ B G c m1 G1 b) (ha : ∀ s, b s = true → NJ B (G1 s) sa (ma s) g) (hb : ∀ s, b s = false → NJ B (G1 s) sb (mb s) g)
    (hr : ∀ s, BJ B (g s) rest (mr s) fin) : BJ B G (.If c sa sb pos :: rest) ((m1.bind fun s => if b s = true then ma s else mb s).bind mr) fin := fun X W ok tk => by
  refine pss_imp (pss_cons (ps_if (hc X W ok.toCxOk tk) (pss_ex fun s : { s : γ // b s = true } => ha s.1 s.2 X W ok tk) (pss_ex fun s : { s : γ // b s = false } => hb s.1 s.2 X W ok tk)) (pss_ex fun s => hr s X W ok tk)) fun D σ H ⟨f, xok, Hs, xs, env, q⟩ => ?_
  refine ⟨f, xok, [], [], Hs, xs, env, Res.wp_mono (Res.wp_bind.mp (Res.wp_bind.mp q)) fun s k H' Hs' env' => ?_⟩
  cases hbs : b s with
  | true =>
    rw [hbs] at k
    exact ⟨⟨s, hbs⟩, f, xok, Hs', xs, env', Res.wp_mono (show (ma s).wp xok _ from k) fun z kz σ6 H6 Hs6 env6 => ⟨z, f, xok, Hs6, xs, env6, kz⟩⟩
  | false =>
    rw [hbs] at k
    exact ⟨⟨s, hbs⟩, f, xok, Hs', xs, env', Res.wp_mono (show (mb s).wp xok _ from k) fun z kz σ6 H6 Hs6 env6 => ⟨z, f, xok, Hs6, xs, env6, kz⟩⟩
end
end TM

set_option Elab.async false
set_option linter.all false
set_option maxRecDepth 100000
/-! TM33: names of items: a list of one's own whose pointers are told of; a name of one of its items. -/
namespace TM
open PySem L2
/-- a list, its pointers as P tells -/
@[reducible] def tListK (P : List V → Prop) (τ : Ty) : Ty := ⟨List τ.T, fun K H v xs => ∃ a vs, v = .ref a ∧ P vs ∧ H a = some (.lst vs) ∧ xs.length ≤ sizeLine ∧ Paired (τ.rep K H) vs xs, fun e ⟨a, vs, h1, hP, h2, h3, h4⟩ =>
  ⟨a, vs, h1, hP, e _ _ h2, h3, paired_imp h4 fun _ _ => τ.mono e⟩⟩
/-- a list of one's own, its pointers as P tells -/
@[reducible] def kLK (pin : Addr → Prop) (P : List V → Prop) (κ : Kd) : Kd where
  ty := tListK P κ.ty
  st := false
  rep := fun K S H Hs v xs => ∃ p vs Ss, v = .ref p ∧ pin p ∧ P vs ∧ H p = some (.lst vs) ∧ xs.length ≤ sizeLine ∧ S = p :: Ss.flatten ∧ Els (fun S v x => κ.rep K S H Hs v x) Ss vs xs
  keep := fun {K S H Hs H' Hs' v x} h k e => by
    obtain ⟨p, vs, Ss, h1, h0, hP, h2, h3, h4, h5⟩ := h
    subst h4
    refine ⟨p, vs, Ss, h1, h0, hP, k p List.mem_cons_self _ h2, h3, rfl, ?_⟩
    exact h5.imp fun S v x hm r => κ.keep r (fun a ha o ho => k a (List.mem_cons_of_mem _ (List.mem_flatten.mpr ⟨S, hm, ha⟩)) o ho) e
  thaw := fun {K S H Hs H2 v x} ⟨p, vs, Ss, h1, _, hP, h2, h3, h4, h5⟩ e k => ⟨p, vs, h1, hP, k p (by rw [h4]; exact List.mem_cons_self) _ h2, h3, by
    have h6 : Els (fun S v x => κ.ty.rep K H2 v x) Ss vs x := h5.imp fun S v x hm r => κ.thaw r e fun a ha o ho => k a (by rw [h4]; exact List.mem_cons_of_mem _ (List.mem_flatten.mpr ⟨S, hm, ha⟩)) o ho
    exact h6.paired.pair⟩
  stab := fun h => nomatch h
/-- the pointer p, no more -/
@[reducible] def tRef (p : Addr) : Ty := ⟨Unit, fun _ _ v _ => v = .ref p, fun _ h => h⟩
section
variable {K : Fg} {f : Fr} {G D : List Slot} {σ : St} {vs : List V} {H Hs : Hp} {pin : Addr → Prop} {P P' : List V → Prop} {κ : Kd} {i : Nat}
/-- what is told of the pointers may be told otherwise -/
theorem Env.rek {xs : List κ.ty.T} (h : Env K f G D σ vs H Hs) (hg : G[i]? = some (some ⟨kLK pin P κ, xs⟩)) (k : ∀ us, P us → P' us) : Env K f (G.set i (some ⟨kLK pin P' κ, xs⟩)) D σ vs H Hs := by
  obtain ⟨SG, SD, a, b, o⟩ := h
  obtain ⟨S, ov, e1, e2, v, e3, p, us, Ss, h1, h0, hP, h2, h3, h4, h5⟩ := a.get hg
  subst e3
  exact env_shift (S' := S) (SD := SD) (SD' := SD) a o e1 e2 ⟨v, rfl, p, us, Ss, h1, h0, k us hP, h2, h3, h4, h5⟩ b fun c => Nat.le_refl _
theorem Env.ofK {xs : List κ.ty.T} (h : Env K f G D σ vs H Hs) (hg : G[i]? = some (some ⟨kLK pin P κ, xs⟩)) : Env K f (G.set i (some ⟨kLP pin κ, xs⟩)) D σ vs H Hs := by
  obtain ⟨SG, SD, a, b, o⟩ := h
  obtain ⟨S, ov, e1, e2, v, e3, p, us, Ss, h1, h0, hP, h2, h3, h4, h5⟩ := a.get hg
  subst e3
  exact env_shift (S' := S) (SD := SD) (SD' := SD) a o e1 e2 ⟨v, rfl, p, us, Ss, h1, h0, h2, h3, h4, h5⟩ b fun c => Nat.le_refl _
theorem Env.toK {xs : List κ.ty.T} (h : Env K f G D σ vs H Hs) (hg : G[i]? = some (some ⟨kLP pin κ, xs⟩)) (k : ∀ us, P us) : Env K f (G.set i (some ⟨kLK pin P κ, xs⟩)) D σ vs H Hs := by
  obtain ⟨SG, SD, a, b, o⟩ := h
  obtain ⟨S, ov, e1, e2, v, e3, p, us, Ss, h1, h0, h2, h3, h4, h5⟩ := a.get hg
  subst e3
  exact env_shift (S' := S) (SD := SD) (SD' := SD) a o e1 e2 ⟨v, rfl, p, us, Ss, h1, h0, k us, h2, h3, h4, h5⟩ b fun c => Nat.le_refl _
/-- a name is given to the item j -/
theorem Env.link {pin' : Addr → Prop} {xs : List (List κ.ty.T)} {x : List κ.ty.T} {j : Nat} (h : Env K f G D σ vs H Hs) (hg : G[i]? = some (some ⟨kLK pin P (kLP pin' κ), xs⟩)) (hj : xs[j]? = some x) : ∃ p us q, σ[i]? = some (some (.ref p)) ∧ H p = some (.lst us) ∧ us.length = xs.length ∧ us[j]? = some (.ref q) ∧
    Env K f (G.set i (some ⟨kLK pin (fun us => P us ∧ us[j]? = some (.ref q)) (kLP pin' κ), xs⟩)) D σ vs H Hs := by
  obtain ⟨SG, SD, a, b, o⟩ := h
  obtain ⟨S, ov, e1, e2, v, e3, p, us, Ss, h1, h0, hP, h2, h3, h4, h5⟩ := a.get hg
  subst e3
  subst h1
  obtain ⟨S2, v2, s1, s2, q, ws, Ts, rfl, hq, r2, r3, r4, r5⟩ := h5.get hj
  exact ⟨p, us, q, e2, h2, h5.len.2, s2, env_shift (S' := S) (SD := SD) (SD' := SD) a o e1 e2 ⟨_, rfl, p, us, Ss, rfl, h0, ⟨hP, s2⟩, h2, h3, h4, h5⟩ b fun c => Nat.le_refl _⟩
end
/-- a list of one's own whose item j (the object q) is lent, its pointers as P tells -/
@[reducible] def kHoleK (pin : Addr → Prop) (P : List V → Prop) (q : Addr) (j : Nat) (κ : Kd) : Kd where
  ty := ⟨List κ.ty.T, fun _ _ _ _ => True, fun _ h => h⟩
  st := false
  rep := fun K S H Hs v xs => ∃ p vs Ss, v = .ref p ∧ pin p ∧ P vs ∧ H p = some (.lst vs) ∧ xs.length ≤ sizeLine ∧ vs.length = xs.length ∧ vs[j]? = some (.ref q) ∧ S = p :: Ss.flatten ∧ Els (fun S v x => κ.rep K S H Hs v x) Ss (vs.eraseIdx j) (xs.eraseIdx j)
  keep := fun {K S H Hs H' Hs' v x} h k e => by
    obtain ⟨p, vs, Ss, h1, h0, hP, h2, h3, h6, h7, h4, h5⟩ := h
    subst h4
    refine ⟨p, vs, Ss, h1, h0, hP, k p List.mem_cons_self _ h2, h3, h6, h7, rfl, ?_⟩
    exact h5.imp fun S v x hm r => κ.keep r (fun a ha o ho => k a (List.mem_cons_of_mem _ (List.mem_flatten.mpr ⟨S, hm, ha⟩)) o ho) e
  thaw := fun _ _ _ => trivial
  stab := fun h => nomatch h
section
variable {K : Fg} {f : Fr} {G D : List Slot} {σ : St} {vs : List V} {H Hs : Hp} {pin pin' pn2 : Addr → Prop} {P : List V → Prop} {κ : Kd} {i j : Nat}
theorem Env.lendK {xs : List (List κ.ty.T)} {x : List κ.ty.T} {q : Addr} (h : Env K f G D σ vs H Hs) (hg : G[i]? = some (some ⟨kLK pin P (kLP pin' κ), xs⟩)) (hP : ∀ us, P us → us[j]? = some (.ref q)) (hj : xs[j]? = some x) :
    Env K f (G.set i (some ⟨kHoleK pin P q j (kLP pin' κ), xs⟩)) (some ⟨kLP (fun a => a = q ∧ pin' a) κ, x⟩ :: D) σ (.ref q :: vs) H Hs := by
  obtain ⟨SG, SD, a, b, o⟩ := h
  obtain ⟨S, ov, e1, e2, v, e3, p, us, Ss, h1, h0, hPu, h2, h3, h4, h5⟩ := a.get hg
  subst e3
  subst h1
  subst h4
  obtain ⟨S2, v2, s1, s2, q2, ws, Ts, rfl, hq, r2, r3, r4, r5⟩ := h5.get hj
  have eq := hP us hPu
  rw [s2] at eq
  cases eq
  refine env_shift (S' := p :: (Ss.eraseIdx j).flatten) (SD := SD) (SD' := S2 :: SD) a o e1 e2 ⟨_, rfl, p, us, Ss.eraseIdx j, rfl, h0, hPu, h2, h3, h5.len.2, s2, rfl, h5.erase j⟩ ⟨⟨_, rfl, q, ws, Ts, rfl, ⟨rfl, hq⟩, r2, r3, r4, r5⟩, b⟩ fun c => ?_
  have := count_erase (a := c) s1
  rw [List.flatten_cons, List.count_cons, List.count_cons, List.count_append]
  omega
theorem Env.fillK {q : Addr} {v : V} {xs : List (List κ.ty.T)} {y : List κ.ty.T} (h : Env K f G (some ⟨kLP pn2 κ, y⟩ :: D) σ (v :: vs) H Hs) (hg : G[i]? = some (some ⟨kHoleK pin P q j (kLP pin' κ), xs⟩)) (hp : ∀ a, pn2 a → a = q ∧ pin' a) :
    Env K f (G.set i (some ⟨kLK pin P (kLP pin' κ), xs.set j y⟩)) D σ vs H Hs := by
  obtain ⟨SG, SD, a, b, o⟩ := h
  cases SD with
  | nil => exact b.elim
  | cons S SD =>
    obtain ⟨S1, ov, e1, e2, v1, e3, p, us, Ss, rfl, hpin, hPu, h2, h3, h6, h7, rfl, h5⟩ := a.get hg
    obtain ⟨⟨v2, ev, q2, ws, Ts, rfl, hq, r2, r3, r4, r5⟩, b2⟩ := b
    cases ev
    obtain ⟨rfl, hq'⟩ := hp _ hq
    subst e3
    have hjl : j < us.length := (List.getElem?_eq_some_iff.mp h7).1
    have hjx : j < xs.length := by rw [← h6]; exact hjl
    have hle : j ≤ (xs.eraseIdx j).length := by
      rw [List.length_eraseIdx, if_pos hjx]; omega
    have rr : (kLP pin' κ).rep K S H Hs (.ref q2) y := ⟨q2, ws, Ts, rfl, hq', r2, r3, r4, r5⟩
    have hel := h5.insert j rr hle
    rw [erase_put hjl, erase_put hjx] at hel
    have hus : us.set j (.ref q2) = us := by
      obtain ⟨hl, e⟩ := List.getElem?_eq_some_iff.mp h7
      rw [← e]; exact List.set_getElem_self hl
    rw [hus] at hel
    refine env_shift (S' := p :: (Ss.take j ++ [S] ++ Ss.drop j).flatten) (SD := S :: SD) (SD' := SD) a o e1 e2 ⟨_, rfl, p, us, _, rfl, hpin, hPu, h2, by rw [List.length_set]; exact h3, rfl, hel⟩ b2 fun c => ?_
    have e : List.count c Ss.flatten = List.count c (Ss.take j).flatten + List.count c (Ss.drop j).flatten := by
      rw [← List.count_append, ← List.flatten_append, List.take_append_drop]
    rw [List.flatten_append, List.flatten_append, List.flatten_cons, List.flatten_cons, List.flatten_nil, List.append_nil, List.count_cons, List.count_cons, List.count_append, List.count_append, List.count_append]
    omega
end
section
variable {B : Bd} {G : List Slot} {κ : Kd} {pos : Pos} {n : Str} {pin : Addr → Prop} {P : List V → Prop}
/-- a name of an item is read -/
theorem pj_link (i r j : Nat) {q : Addr} (xs : List κ.ty.T) (ho : nmOk B.N = true) (hN : B.N[r]? = some n) (hv : Vis B.sc n) (hg : G[i]? = some (some ⟨kLK pin P κ, xs⟩)) (hgr : G[r]? = some (sv (tRef q) ())) (hP : ∀ us, P us → us[j]? = some (.ref q)) :
    PJ B G (.Name n pos) κ.ty (match xs[j]? with | some x => .ok x | none => .bad) := by
  refine ⟨fun _ => tVar r, fun X W ok tk => pe_var (by rw [ok.N]; exact hN) (by rw [ok.sc]; exact hv) (nmOk_at ho hN).1 (nmOk_at ho hN).2, fun W xok st H Hv Q v ve xw q1 => ?_⟩
  obtain ⟨u, e1, r1⟩ := ve.get r _ hgr
  obtain ⟨w, e2, a, us, h1, hPu, h2, h3, h4⟩ := ve.get i _ hg
  have r1' : u = .ref q := r1
  subst r1'
  cases hx : xs[j]? with
  | none => rw [hx] at q1; exact q1.elim
  | some x =>
    rw [hx] at q1
    obtain ⟨z, k1, k2⟩ := paired_get h4 hx
    rw [hP us hPu] at k1
    cases k1
    exact ⟨_, e1, q1 _ H Hv (Grow.refl v) k2⟩
end
end TM

set_option Elab.async false
set_option linter.all false
set_option maxRecDepth 100000
/-! TM34: names of items, statements. -/
namespace TM
open PySem L2
theorem set_same {σ : St} {r : Nat} {v : V} (h : σ[r]? = some (some v)) : σ.set r (some v) = σ := by
  obtain ⟨hl, e⟩ := List.getElem?_eq_some_iff.mp h
  rw [← e]; exact List.set_getElem_self hl
section
variable {B : Bd} {G : List Slot} {e : Expr} {κ : Kd} {pos p p2 p3 : Pos} {n n2 : Str} {rest body : List Stmt} {α β : Type} {fin : α → Fin} {pin pin' pn2 : Addr → Prop} {P P' : List V → Prop}
/-- name = xs[e]: a name of the item -/
theorem bj_link (i r : Nat) {xs : List (List κ.ty.T)} {m1 : Res Int} {m2 : Nat → Res α} (hN : B.N.Nodup) (ho : nmOk B.N = true) (hi : B.N[i]? = some n) (hv : Vis B.sc n) (hri : B.N[r]? = some n2) (hx : Loc B.sc n2) (hg : G[i]? = some (some ⟨kLK pin P (kLP pin' κ), xs⟩)) (he : PJ B G e tInt m1) (hs : PlainIx e)
    (hr : ∀ q j, BJ B ((G.set i (some ⟨kLK pin (fun us => P us ∧ us[j]? = some (.ref q)) (kLP pin' κ), xs⟩)).set r (sv (tRef q) ())) rest (m2 j) fin) (hsw : ∀ env, swapsWith (.Subscript (.Name n p) e p3) (some (.Name n2 p2)) pos.line env = pure false := by intro _; rfl) :
    BJ B G (.Assign [.Name n2 p2] (.Subscript (.Name n p) e p3) pos :: rest) (m1.bind fun k => (borR xs k).bind fun jx => m2 jx.1) fin := fun X W ok tk => by
  have hx' := ix_list (X := X)
  rw [ok.K] at hx'
  refine pss_imp (pss_cons (ps_set (i := r) (by rw [ok.N]; exact hN) (by rw [ok.N]; exact hri) (by rw [ok.sc]; exact hx) (pe_ix hx' (pe_var (i := i) (by rw [ok.N]; exact hi) (by rw [ok.sc]; exact hv) (nmOk_at ho hi).1 (nmOk_at ho hi).2) (ej_imm he imm_int X W ok.toCxOk tk) hs) (hsw X.env) (.inl (ok.fn n2))) (pss_ex fun q => pss_ex fun j => hr q j X W ok tk)) fun D σ H ⟨f, xok, Hs, xss, env, q⟩ => ?_
  obtain ⟨p0, us0, e1⟩ : ∃ p0 us0, σ[i]? = some (some (.ref p0)) ∧ H p0 = some (.lst us0) := by
    obtain ⟨SG, SD, a, b, o⟩ := id env
    obtain ⟨S, ov, k1, k2, v, k3, p, us, Ss, h1, h0, hPu, h2, _⟩ := a.get hg
    exact ⟨p, us, by rw [k2, k3, h1], h2⟩
  refine ⟨_, e1.1, f, xok, [], [], Hs, xss, env, Res.wp_mono (Res.wp_bind.mp q) fun k q1 v H1 Hs1 env1 => ?_⟩
  have hv : v = .int k := env1.flat flat_int H1
  subst hv
  have env2 := env1.pop
  unfold borR at q1
  cases hj : ixN xs.length k with
  | none => rw [hj] at q1; exact q1.elim
  | some j =>
    rw [hj] at q1
    cases hx : xs[j]? with
    | none => simp only [hx] at q1; exact q1.elim
    | some x =>
      simp only [hx] at q1
      obtain ⟨p1, us, qq, f1, f2, f3, f4, env3⟩ := env2.link hg hx
      rw [e1.1] at f1
      cases f1
      exact ⟨p0, us, k, .ref qq, rfl, rfl, SqL.of f2, atI_of (by rw [f3]; exact hj) f4, qq, j, f, xok, Hs1, xss, env3.storeVal (τ := tRef qq) r rfl, q1⟩
def lendR {α β : Type} (xs : List α) (j : Nat) (m : α → Res β) : Res β := match xs[j]? with
  | some x => m x
  | none => .bad
/-- the named item is lent to its name -/
theorem bj_lend (i r j : Nat) {q : Addr} {xs : List (List κ.ty.T)} {m : List κ.ty.T → Res α} (hg : G[i]? = some (some ⟨kLK pin P (kLP pin' κ), xs⟩)) (hgr : G[r]? = some (sv (tRef q) ())) (hP : ∀ us, P us → us[j]? = some (.ref q))
    (h : ∀ x : List κ.ty.T, BJ B ((G.set i (some ⟨kHoleK pin P q j (kLP pin' κ), xs⟩)).set r (some ⟨kLP (fun a => a = q ∧ pin' a) κ, x⟩)) rest (m x) fin) : BJ B G rest (lendR xs j m) fin := fun X W ok tk =>
  pss_imp (pss_ex fun x => h x X W ok tk) fun D σ H ⟨f, xok, Hs, xss, env, q1⟩ => by
    unfold lendR at q1
    cases hx : xs[j]? with
    | none => rw [hx] at q1; exact q1.elim
    | some x =>
      rw [hx] at q1
      have hσ : σ[r]? = some (some (.ref q)) := by
        obtain ⟨SG, SD, a, b, o⟩ := id env
        obtain ⟨S, ov, k1, k2, v, k3, k4, k5⟩ := a.get hgr
        rw [k2, k3]
        exact congrArg (fun z => some (some z)) k5
      have env2 := (env.lendK hg hP hx).store r
      rw [set_same hσ] at env2
      exact ⟨x, f, xok, Hs, xss, env2, q1⟩
/-- .. and comes back, the names stay -/
theorem bj_unlend (i r j : Nat) {q : Addr} {xs : List (List κ.ty.T)} {y : List κ.ty.T} {m : Res α} (hir : i ≠ r) (hg : G[i]? = some (some ⟨kHoleK pin P q j (kLP pin' κ), xs⟩)) (hgr : G[r]? = some (some ⟨kLP pn2 κ, y⟩)) (hp : ∀ a, pn2 a → a = q ∧ pin' a)
    (h : BJ B (((G.set r none).set i (some ⟨kLK pin P (kLP pin' κ), xs.set j y⟩)).set r (sv (tRef q) ())) rest m fin) : BJ B G rest m fin := fun X W ok tk =>
  pss_imp (h X W ok tk) fun D σ H ⟨f, xok, Hs, xss, env, q1⟩ => by
    have hσ : σ[r]? = some (some (.ref q)) := by
      obtain ⟨SG, SD, a, b, o⟩ := id env
      obtain ⟨S, ov, k1, k2, v, k3, p, us, Ss, k4, k5, _⟩ := a.get hgr
      rw [k2, k3, k4, (hp _ k5).1]
    obtain ⟨v, _, env2⟩ := env.move hgr
    have env3 := (env2.fillK (i := i) (by rw [List.getElem?_set_ne (Ne.symm hir)]; exact hg) hp).storeVal (τ := tRef q) (x := ()) (v := .ref q) r rfl
    rw [set_same hσ] at env3
    exact ⟨f, xok, Hs, xss, env3, q1⟩
/-- what is told of the pointers is told otherwise, forgotten, begun -/
theorem bj_rek (i : Nat) {xs : List κ.ty.T} {m : Res α} (hg : G[i]? = some (some ⟨kLK pin P κ, xs⟩)) (k : ∀ us, P us → P' us) (h : BJ B (G.set i (some ⟨kLK pin P' κ, xs⟩)) rest m fin) : BJ B G rest m fin := fun X W ok tk =>
  pss_imp (h X W ok tk) fun D σ H ⟨f, xok, Hs, xss, env, q1⟩ => ⟨f, xok, Hs, xss, env.rek hg k, q1⟩
theorem bj_ofK (i : Nat) {xs : List κ.ty.T} {m : Res α} (hg : G[i]? = some (some ⟨kLK pin P κ, xs⟩)) (h : BJ B (G.set i (some ⟨kLP pin κ, xs⟩)) rest m fin) : BJ B G rest m fin := fun X W ok tk =>
  pss_imp (h X W ok tk) fun D σ H ⟨f, xok, Hs, xss, env, q1⟩ => ⟨f, xok, Hs, xss, env.ofK hg, q1⟩
theorem bj_toK (i : Nat) {xs : List κ.ty.T} {m : Res α} (hg : G[i]? = some (some ⟨kLP pin κ, xs⟩)) (k : ∀ us, P us) (h : BJ B (G.set i (some ⟨kLK pin P κ, xs⟩)) rest m fin) : BJ B G rest m fin := fun X W ok tk =>
  pss_imp (h X W ok tk) fun D σ H ⟨f, xok, Hs, xss, env, q1⟩ => ⟨f, xok, Hs, xss, env.toK hg k, q1⟩
end
end TM

set_option Elab.async false
set_option linter.all false
set_option maxRecDepth 100000
/-! TM35: name[e] = e', name a name of an item. -/
namespace TM
open PySem L2
section
variable {B : Bd} {G : List Slot} {e e1 : Expr} {κ : Kd} {pos : Pos} {n : Str} {rest : List Stmt} {α β γ : Type} {pin pin' : Addr → Prop} {P : List V → Prop}
theorem Env.setLink {K : Fg} {f : Fr} {D : List Slot} {σ : St} {vs : List V} {H Hs : Hp} {i r j k : Nat} {q : Addr} {xs : List (List κ.ty.T)} {row : List κ.ty.T} {x : κ.ty.T} {v : V} (hir : i ≠ r) (h : Env K f G (some ⟨κ, x⟩ :: D) σ (v :: vs) H Hs) (hg : G[i]? = some (some ⟨kLK pin P (kLP pin' κ), xs⟩)) (hgr : G[r]? = some (sv (tRef q) ())) (hP : ∀ us, P us → us[j]? = some (.ref q)) (hj : xs[j]? = some row) (hk : k < row.length) :
    ∃ us, σ[r]? = some (some (.ref q)) ∧ H q = some (.lst us) ∧ us.length = row.length ∧ Env K f (G.set i (some ⟨kLK pin P (kLP pin' κ), xs.set j (row.set k x)⟩)) D σ vs (upd H q (.lst (us.set k v))) Hs := by
  have hσ : σ[r]? = some (some (.ref q)) := by
    obtain ⟨SG, SD, a, b, o⟩ := id h
    obtain ⟨S, ov, k1, k2, w, k3, k4, k5⟩ := a.get hgr
    rw [k2, k3]
    exact congrArg (fun z => some (some z)) k5
  have hlen : r < G.length := (List.getElem?_eq_some_iff.mp hgr).1
  have env1 := (h.lendK hg hP hj).store r
  rw [set_same hσ] at env1
  obtain ⟨p, us, f1, f2, f3, env2⟩ := env1.setAt (i := r) (j := k) (List.getElem?_set_self (by rw [List.length_set]; exact hlen)) hk
  rw [hσ] at f1
  cases f1
  rw [List.set_set] at env2
  obtain ⟨w, _, env3⟩ := env2.move (i := r) (List.getElem?_set_self (by rw [List.length_set]; exact hlen))
  rw [List.set_set] at env3
  have env4 := env3.fillK (i := i) (by rw [List.getElem?_set_ne (Ne.symm hir)]; exact List.getElem?_set_self (List.getElem?_eq_some_iff.mp hg).1) (fun a h => h)
  have env5 := env4.storeVal2 (τ := tRef q) (x := ()) (v := .ref q) r rfl
  rw [set_same hσ] at env5
  refine ⟨us, hσ, f2, f3, ?_⟩
  have e : (((((G.set i (some ⟨kHoleK pin P q j (kLP pin' κ), xs⟩)).set r none).set i (some ⟨kLK pin P (kLP pin' κ), xs.set j (row.set k x)⟩))).set r (sv (tRef q) ())) = G.set i (some ⟨kLK pin P (kLP pin' κ), xs.set j (row.set k x)⟩) := by
    rw [List.set_comm (none : Slot) _ (Ne.symm hir), List.set_set, List.set_set, List.set_comm _ _ hir]
    obtain ⟨hl, e⟩ := List.getElem?_eq_some_iff.mp hgr
    rw [← e, List.set_getElem_self]
  rw [e] at env5
  exact env5
/-- name[e1] = e, name a name of the item j -/
theorem bj_setIxL (i r j : Nat) {q : Addr} {m1 : Res β} {v : β → κ.ty.T} {m2 : β → Res Int} {xs : β → List (List κ.ty.T)} {G1 : β → List Slot} {ζ : Type} {finz : ζ → Fin} {m3 : β → List (List κ.ty.T) → Res ζ} {tpos npos : Pos} (hir : i ≠ r) (ho : nmOk B.N = true) (hri : B.N[r]? = some n) (hv : Vis B.sc n)
    (hgr0 : G[r]? = some (sv (tRef q) ())) (he : EJ B G e m1 G1 κ v) (hk : ∀ b, PJ B (G1 b) e1 tInt (m2 b)) (hg : ∀ b, (G1 b)[i]? = some (some ⟨kLK pin P (kLP pin' κ), xs b⟩)) (hgr : ∀ b, (G1 b)[r]? = some (sv (tRef q) ())) (hP : ∀ us, P us → us[j]? = some (.ref q))
    (hr : ∀ b (ys : List (List κ.ty.T)), BJ B ((G1 b).set i (some ⟨kLK pin P (kLP pin' κ), ys⟩)) rest (m3 b ys) finz)
    (hsw : ∀ env, swapsWithSole [.Subscript (.Name n npos) e1 tpos] e pos.line env = pure false := by intro _; rfl) (hw : ∀ env, swappedStores [.Subscript (.Name n npos) e1 tpos] e env = pure none := by intro _; rfl)
    (h1 : ∀ env, (assignEach [.Subscript (.Name n npos) e1 tpos] env).map (·.2) = [assign (.Subscript (.Name n npos) e1 tpos) env] := by intro _; rfl)
    (ha : ∀ env v, assign (.Subscript (.Name n npos) e1 tpos) env v = (do
      let ov ← holding [v] (eval (.Name n npos) env)
      let iv ← holding [v, ov] (eval e1 env)
      standAt tpos
      holding [v, ov, iv] (setItem ov iv v)
      release [v, ov, iv] []) := by intro _ _; rfl) :
    BJ B G (.Assign [.Subscript (.Name n npos) e1 tpos] e pos :: rest) (m1.bind fun b => (m2 b).bind fun c => lendR (xs b) j fun row => (setR row c (v b)).bind fun row' => m3 b ((xs b).set j row')) finz := fun X W ok tk => by
  have hk' : PE X e1 (fun σ H Q => ∃ b, ∃ f xok D vs Hs, XS B f xok W ∧ Env B.K f (G1 b) D σ vs H Hs ∧ (m2 b).wp xok fun c => ∀ u H' Hs', Env B.K f (G1 b) (some ⟨kVal tInt, c⟩ :: D) σ (u :: vs) H' Hs' → Q u H') := pe_ex fun b => ej_imm (hk b) imm_int X W ok.toCxOk tk
  refine pss_imp (pss_cons (ps_asg (he X W ok.toCxOk tk) (pg_sub (pe_var (i := r) (by rw [ok.N]; exact hri) (by rw [ok.sc]; exact hv) (nmOk_at ho hri).1 (nmOk_at ho hri).2) hk' set_list (ha X.env)) (hsw X.env) (hw X.env) (h1 X.env)) (pss_ex fun b => pss_ex fun ys => hr b ys X W ok tk)) fun D σ H ⟨f, xok, Hs, xs', env, q1⟩ => ?_
  have hσ : σ[r]? = some (some (.ref q)) := by
    obtain ⟨SG, SD, a, b, o⟩ := id env
    obtain ⟨S, ov, k1, k2, w, k3, k4, k5⟩ := a.get hgr0
    rw [k2, k3]
    exact congrArg (fun z => some (some z)) k5
  refine ⟨f, xok, [], [], Hs, xs', env, Res.wp_mono (Res.wp_bind.mp q1) fun b k1 u H1 Hs1 env1 => ?_⟩
  refine ⟨_, hσ, b, f, xok, [some ⟨κ, v b⟩], [u], Hs1, xs', env1, Res.wp_mono (Res.wp_bind.mp k1) fun c k2 w H2 Hs2 env2 => ?_⟩
  have hu : w = .int c := env2.flat flat_int H2
  subst hu
  unfold lendR at k2
  cases hx : (xs b)[j]? with
  | none => rw [hx] at k2; exact k2.elim
  | some row =>
    rw [hx] at k2
    have k3 := Res.wp_bind.mp (show ((setR row c (v b)).bind fun row' => m3 b ((xs b).set j row')).wp xok _ from k2)
    unfold setR at k3
    cases hj : ixN row.length c with
    | none => rw [hj] at k3; exact k3.elim
    | some k =>
      rw [hj] at k3
      obtain ⟨us1, f1, f2, f3, env3⟩ := env2.pop.setLink hir (hg b) (hgr b) hP hx (ixN_lt hj)
      exact ⟨q, us1, c, k, rfl, rfl, f2, by rw [f3]; exact hj, b, _, f, xok, Hs2, xs', env3, k3⟩
end
end TM

set_option Elab.async false
set_option linter.all false
set_option maxRecDepth 100000
/-! TM36: the script: a list of ints that may be frozen. -/
namespace TM
open PySem L2
theorem sqL_mono {K : Fg} {H H' : Hp} {a : Addr} {xs : List V} (e : Same H H') (h : SqL K H a xs) : SqL K H' a xs := by
  rcases h with (h | ⟨o, h⟩) | h
  · exact .inl (.inl (e _ _ h))
  · exact .inl (.inr ⟨o, e _ _ h⟩)
  · exact .inr h
@[reducible] def tScr : Ty := ⟨List Int, fun K H v xs => ∃ a, v = .ref a ∧ SqL K H a (xs.map V.int) ∧ xs.length ≤ sizeLine, fun e ⟨a, h1, h2, h3⟩ => ⟨a, h1, sqL_mono e h2, h3⟩⟩
theorem ints_get {xs : List Int} {i : Nat} : (xs.map V.int)[i]? = xs[i]?.map V.int := List.getElem?_map
section
variable {B : Bd} {G : List Slot} {e a b : Expr} {pos p : Pos} {n : Str}
theorem pj_ixScr {ma : Res (List Int)} {mb : Res Int} (hs : PlainIx b) (ha : PJ B G a tScr ma) (hb : PJ B G b tInt mb) : PJ B G (.Subscript a b pos) tInt (ma.bind fun x => mb.bind fun y => atR x y) :=
  pj_ix (ρ := tScr) (σ := tInt) (τ := tInt) (g := fun (xs : List Int) (i : Int) => atR xs i) (fun X ok => by have h := ix_list (X := X); rw [ok.K] at h; exact h) (fun H Hv v w x y Q vw r1 r2 z e q => by
    obtain ⟨p, rfl, h2, h3⟩ := r1
    obtain ⟨j, e1, e2⟩ := atR_inv e
    refine ⟨p, x.map V.int, y, .int z, rfl, r2, sqL_mono vw.sub h2, atI_of (j := j) (by rw [List.length_map]; exact e1) (by rw [ints_get, e2]; rfl), q _ H Hv (Grow.refl vw) rfl⟩) (fun _ _ _ => atR_exc) hs ha hb
theorem pj_lenScr {ma : Res (List Int)} (hg : B.sc.names.lookup ("len" : Str) = some .globalImplicit) (hm : B.mg "len" = none) (ha : PJ B G e tScr ma) (hs : ∀ env, starEach [e] env = (false, eval e env) :: starEach [] env := by intro _; rfl) :
    PJ B G (.Call (.Name "len" p) [e] [] pos) tInt (ma.bind fun x => .ok ((x.length : Nat) : Int)) :=
  pj_of_oj (κ := kVal tInt) (oj_cb (ρ := tScr) (κ := kVal tInt) (r := fun xs H Q => ∃ p ys, xs = [.ref p] ∧ (SqL B.K H p ys ∨ SqT B.K H p ys) ∧ Q (.int ys.length) H) (g := fun (x : List Int) => Res.ok ((x.length : Nat) : Int)) (fun X ok => by have h := call_len_seq (X := X); rw [ok.K] at h; exact h) hg hm PySem.boot_len (fun H Hv v x Q vw r z e q => by
    cases e
    obtain ⟨a, rfl, h2, h3⟩ := r
    refine ⟨a, x.map V.int, rfl, .inl (sqL_mono vw.sub h2), ?_⟩
    rw [List.length_map]
    exact q _ H Hv [] (Grow.refl vw) ⟨rfl, rfl⟩ fresh_nil) ok_noexc ha (hs := hs))
theorem iter_scr {K : Fg} {f : Fr} {i : Nat} {a : Addr} {xs : List Int} {Hs1 : Hp} (ha : SqL K Hs1 a (xs.map V.int)) : Iter K f (Itl K a) (gName i) xs (bind1 i tInt) Hs1 := fun H2 Hs2 σ G' env e k => by
  have h2 : SqL K H2 a (xs.map V.int) := sqL_mono env.view.sub (sqL_mono e ha)
  refine ⟨fun x hx => ?_, fun hx => ⟨_, h2, ?_⟩⟩
  · have hu : (xs.map V.int)[k]? = some (.int x) := by rw [ints_get, hx]; rfl
    refine ⟨⟨_, .int x, h2, hu⟩, fun v H3 hv Q q => ?_⟩
    obtain ⟨rfl, hv⟩ := hv
    have : v = .int x := Option.some.inj ((hv _ h2).symm.trans hu)
    subst this
    exact q _ _ Hs2 (env.storeVal (τ := tInt) i rfl)
  · rw [List.length_map]; exact List.getElem?_eq_none_iff.mp hx
theorem fj_scr (i : Nat) {m : Res (List Int)} (hN : B.N.Nodup) (hi : B.N[i]? = some n) (hx : B.sc.names.lookup n = some .local ∨ (B.sc.names.lookup n = some .cell)) (he : PJ B (stab G) e tScr m) : FJ B G (.Name n p) e m (bind1 i tInt) := fun X W ok tk => by
  obtain ⟨t, h1, h2⟩ := he
  refine ⟨_, _, pi_list (h1 X W ok.toCxOk tk), pg_name (i := i) (by rw [ok.N]; exact hN) (by rw [ok.N]; exact hi) (by rw [ok.sc]; exact hx) (Or.inl (ok.fn _)), fun f xok σ H Hs R xs env q => ?_⟩
  refine h2 W xok σ H Hs _ env.view env.vstab (xs.xw env) (Res.wp_mono q fun ys k v H1 Hs1 g r => ?_)
  obtain ⟨a, rfl, ha, hl⟩ := r
  refine ⟨a, rfl, ⟨_, by rw [ok.K]; exact sqL_mono g.view.sub ha⟩, ?_⟩
  rw [ok.K]
  exact k _ H1 Hs1 (env.grown g) fun f' => iter_scr ha
end
end TM

set_option Elab.async false
set_option linter.all false
set_option maxRecDepth 100000
/-! TM37: names of items: stores that part them, calls with a list of one item. -/
namespace TM
open PySem L2
section
variable {K : Fg} {f : Fr} {G D : List Slot} {σ : St} {vs : List V} {H Hs : Hp} {pin pin' pn2 : Addr → Prop} {P : List V → Prop} {κ : Kd} {i r j : Nat}
theorem Env.refK {xs : List κ.ty.T} (h : Env K f G D σ vs H Hs) (hg : G[i]? = some (some ⟨kLK pin P κ, xs⟩)) : ∃ p us, σ[i]? = some (some (.ref p)) ∧ H p = some (.lst us) := by
  obtain ⟨SG, SD, a, b, o⟩ := h
  obtain ⟨S, ov, k1, k2, v, k3, p, us, Ss, h1, h0, hPu, h2, _⟩ := a.get hg
  exact ⟨p, us, by rw [k2, k3, h1], h2⟩
/-- an item is replaced, the old one handed out -/
theorem Env.setOut {xs : List (List κ.ty.T)} {old y : List κ.ty.T} {q : Addr} {v : V} (h : Env K f G (some ⟨kLP pin' κ, y⟩ :: D) σ (v :: vs) H Hs) (hg : G[i]? = some (some ⟨kLK pin P (kLP pin' κ), xs⟩)) (hP : ∀ us, P us → us[j]? = some (.ref q)) (hj : xs[j]? = some old) :
    ∃ p us, σ[i]? = some (some (.ref p)) ∧ H p = some (.lst us) ∧ us.length = xs.length ∧
    Env K f (G.set i (some ⟨kLP pin (kLP pin' κ), xs.set j y⟩)) (some ⟨kLP (fun a => a = q ∧ pin' a) κ, old⟩ :: D) σ (.ref q :: vs) (upd H p (.lst (us.set j v))) Hs := by
  obtain ⟨SG, SD, a, b, o⟩ := h
  obtain ⟨S0, ov, e1, e2, v0, e3, p, us, Ss, h1, h0, hPu, h2, h3, h4, h5⟩ := a.get hg
  subst e3
  subst h1
  subst h4
  cases SD with
  | nil => exact b.elim
  | cons S SD =>
    have nd := own_nodup o e1
    obtain ⟨np, np2⟩ := np_of nd
    obtain ⟨S2, v2, s1, s2, hrep⟩ := h5.get hj
    obtain ⟨q2, ws, Ts, hv2, hq, r2, r3, r4, r5⟩ := id hrep
    subst hv2
    have eq := hP us hPu
    rw [s2] at eq
    cases eq
    refine ⟨p, us, e2, h2, h5.len.2, env_upd (S' := p :: (Ss.set j S).flatten) (SD := S :: SD) (SD' := S2 :: SD) a o e1 List.mem_cons_self trivial e2 ⟨_, rfl, p, us.set j v, Ss.set j S, rfl, h0, upd_same, by simpa using h3, rfl, ?_⟩ ⟨⟨_, rfl, ?_⟩, sls_off b.2 fun m => np (by rw [List.flatten_cons]; exact List.mem_append_right _ m)⟩ fun c => ?_⟩
    · refine (els_off h5 np2).set ?_
      obtain ⟨u, e, rr⟩ := b.1
      cases e
      exact (kLP pin' κ).keep rr (fun a ha o ho => by rw [upd_off np (by rw [List.flatten_cons]; exact List.mem_append_left _ ha)]; exact ho) (Same.refl Hs)
    · have r6 : (kLP (fun a => a = q ∧ pin' a) κ).rep K S2 H Hs (.ref q) old := ⟨q, ws, Ts, rfl, ⟨rfl, hq⟩, r2, r3, r4, r5⟩
      exact (kLP (fun a => a = q ∧ pin' a) κ).keep r6 (fun a ha o ho => by rw [upd_off np2 (List.mem_flatten.mpr ⟨S2, List.mem_of_getElem? s1, ha⟩)]; exact ho) (Same.refl Hs)
    · have := count_set (a := c) (S' := S) s1
      rw [List.flatten_cons, List.flatten_cons, List.count_cons, List.count_cons, List.count_append, List.count_append]
      omega
/-- the list of one item -/
theorem Env.wrap1 {x : List κ.ty.T} {p0 q : Addr} (h : Env K f G D σ vs H Hs) (hg : G[r]? = some (some ⟨kLP pin κ, x⟩)) (hσ : σ[r]? = some (some (.ref q))) (hp : H p0 = none) :
    Env K f (G.set r (some ⟨kL (kLP (fun a => a = q) κ), [x]⟩)) D (σ.set r (some (.ref p0))) vs (upd H p0 (.lst [.ref q])) Hs := by
  obtain ⟨v, e1, env2⟩ := h.move hg
  rw [hσ] at e1
  cases e1
  obtain ⟨SG, SD, a, b, o⟩ := env2
  cases SD with
  | nil => exact b.elim
  | cons S SD =>
    obtain ⟨⟨u, eu, q2, us, Ss, hq, hpin, r2, r3, r4, r5⟩, b2⟩ := b
    cases eu
    cases hq
    have g := Grow.newOwn (o := .lst [.ref q]) o.view hp trivial
    have hs0 : Hs p0 = none := by
      cases hz : Hs p0 with
      | none => rfl
      | some u => have := o.view.sub _ _ hz; rw [hp] at this; cases this
    have o2 := o.push (S := [p0]) g ⟨List.nodup_cons.mpr ⟨List.not_mem_nil, .nil⟩, fun a m => (List.mem_singleton.mp m) ▸ hp, fun a m => by rw [List.mem_singleton.mp m]; exact ⟨_, upd_same, trivial⟩, fun a m => (List.mem_singleton.mp m) ▸ hs0⟩
    have rep : (kLP (fun a => a = q) κ).rep K S (upd H p0 (.lst [.ref q])) Hs (.ref q) x := (kLP (fun a => a = q) κ).keep (H := H) (Hs := Hs) ⟨q, us, Ss, rfl, rfl, r2, r3, r4, r5⟩ (fun a _ o ho => g.same a o ho) (Same.refl Hs)
    have env3 : Env K f (G.set r none) (some ⟨kL (kLP (fun a => a = q) κ), [x]⟩ :: D) σ (.ref p0 :: vs) (upd H p0 (.lst [.ref q])) Hs := by
      refine ⟨SG, (p0 :: S) :: SD, a.keep (fun c _ u e => g.same c u e) (Same.refl Hs), ⟨⟨_, rfl, p0, [.ref q], [S], rfl, trivial, upd_same, by show 1 ≤ sizeLine; decide, by simp, ⟨rep, trivial⟩⟩, Sls.keep b2 (fun c _ u e => g.same c u e) (Same.refl Hs)⟩, ?_⟩
      simpa using o2
    have := env3.store r
    rw [List.set_set] at this
    exact this
theorem Env.unwrap1 {y : List κ.ty.T} {q : Addr} (h : Env K f G D σ vs H Hs) (hg : G[r]? = some (some ⟨kL (kLP (fun a => a = q) κ), [y]⟩)) (hpin : pin q) :
    Env K f (G.set r (some ⟨kLP pin κ, y⟩)) D (σ.set r (some (.ref q))) vs H Hs := by
  obtain ⟨v, e1, env2⟩ := h.move hg
  obtain ⟨SG, SD, a, b, o⟩ := env2
  cases SD with
  | nil => exact b.elim
  | cons S SD =>
    obtain ⟨⟨u, eu, p, us, Ss, hq, _, h2, h3, h4, h5⟩, b2⟩ := b
    obtain ⟨S1, v1, s1, s2, q2, ws, Ts, rfl, hq2, r2, r3, r4, r5⟩ := h5.get (i := 0) (x := y) rfl
    cases hq2
    have env3 : Env K f (G.set r none) (some ⟨kLP pin κ, y⟩ :: D) σ (.ref q :: vs) H Hs := by
      refine ⟨SG, S1 :: SD, a, ⟨⟨_, rfl, q, ws, Ts, rfl, hpin, r2, r3, r4, r5⟩, b2⟩, ?_⟩
      have nd := nodup_count.mp o.nodup
      have hc : ∀ c, List.count c S1 ≤ List.count c S := fun c => by
        have := count_erase (a := c) s1
        rw [h4, List.count_cons]
        omega
      refine o.less (nodup_count.mpr fun c => ?_) fun c m => ?_
      · have := nd c
        have := hc c
        rw [List.flatten_cons, List.count_append, List.count_append] at *
        omega
      · rw [List.flatten_cons, List.append_assoc] at m ⊢
        rcases List.mem_append.mp m with m | m
        · exact List.mem_append_left _ (mem_count.mpr (Nat.lt_of_lt_of_le (mem_count.mp m) (hc c)))
        · exact List.mem_append_right _ m
    have := env3.store r
    rw [List.set_set] at this
    exact this
end
section
variable {B : Bd} {G : List Slot} {e e1 : Expr} {κ κ' κr : Kd} {pos p q q2 apos cpos : Pos} {n x : Str} {rest : List Stmt} {es : List Expr} {ps : List Str} {α β γ A : Type} {fin : α → Fin} {pin pin' pn2 : Addr → Prop} {P : List V → Prop}
theorem ej_ofK (i : Nat) {m : Res β} {G1 : β → List Slot} {v : β → κ'.ty.T} {xs : β → List κ.ty.T} (he : EJ B G e m G1 κ' v) (hg : ∀ b, (G1 b)[i]? = some (some ⟨kLK pin P κ, xs b⟩)) : EJ B G e m (fun b => (G1 b).set i (some ⟨kLP pin κ, xs b⟩)) κ' v := fun X W ok tk =>
  pe_imp (he X W ok tk) fun σ H Q ⟨f, xok, D, vs, Hs, xs', env, q⟩ => ⟨f, xok, D, vs, Hs, xs', env, Res.wp_mono q fun b k u H1 Hs1 env1 => k u H1 Hs1 (env1.ofK (hg b))⟩
/-- xs.append(e), the pointers are told of no more -/
theorem ej_appendK (i : Nat) {m1 : Res β} {G1 : β → List Slot} {v : β → κ.ty.T} {xs0 : List κ.ty.T} {xs : β → List κ.ty.T} (hi : B.N[i]? = some n) (hv : Vis B.sc n) (hg0 : G[i]? = some (some ⟨kLK pin P κ, xs0⟩)) (he : EJ B G e m1 G1 κ v) (hg : ∀ b, (G1 b)[i]? = some (some ⟨kLK pin P κ, xs b⟩))
    (hd : (n == ("__debug__" : Str)) = false := by decide) (hcd : (n == ("__classdict__" : Str)) = false := by decide) 
    (hb : ∀ env, attributeBase (.Name n p) "append" env (eval (.Name n p) env) = eval (.Name n p) env := by intro _; rfl)
    (hfew : ∀ env, ((backTo cpos (starEach [e] env)).all (fun x => !x.1) && (backToKw cpos (keywordEach [] env)).all (fun x => x.1.isSome) && decide (([e] : List Expr).length + ([] : List Keyword).length + (if ([] : List Keyword).isEmpty then 0 else 1) < 30)) = true := by intro _; rfl)
    (hline : (apos.endLine == cpos.line) = true := by rfl) (hst : ∀ env, starEach [e] env = (false, eval e env) :: starEach [] env := by intro _; rfl) :
    EJ B G (.Call (.Attribute (.Name n p) "append" apos) [e] [] cpos) (m1.bind fun b => (appR (xs b) (v b)).bind fun ys => .ok (b, ys)) (fun c => (G1 c.1).set i (some ⟨kLP pin κ, c.2⟩)) (kVal tNone) fun _ => () := fun X W ok tk => by
  refine pe_imp (pe_bm PySem.F.plainAttrs_list PySem.F.slot_list_append PySem.F.type_list_append mt_append (pe_var (i := i) (by rw [ok.N]; exact hi) (by rw [ok.sc]; exact hv) hd hcd) (pa_cons (he X W ok tk) pa_nil (hst X.env)) (hb X.env) (hfew X.env) hline (hst X.env) rfl) fun σ H Q ⟨f, xok, D, vs, Hs, xs', env, q⟩ => ?_
  obtain ⟨p0, us0, e1, e2⟩ := env.refK hg0
  refine ⟨_, e1, .inl ⟨rfl, us0, SqL.of e2⟩, ?_⟩
  refine ⟨f, xok, D, vs, Hs, xs', env, Res.wp_mono (Res.wp_bind.mp q) fun b k u H1 Hs1 env1 => ?_⟩
  unfold appR gate at k
  have hlt : i < (G1 b).length := (List.getElem?_eq_some_iff.mp (hg b)).1
  have env1' := env1.ofK (hg b)
  by_cases hl : (xs b).length < sizeLine
  · rw [if_pos hl] at k
    obtain ⟨p1, us1, f1, f2, f3, env2⟩ := env1'.append (List.getElem?_set_self hlt) hl
    rw [e1] at f1
    cases f1
    rw [List.set_set] at env2
    refine ⟨p0, us1, u, rfl, rfl, f2, by rw [f3]; exact hl, ?_⟩
    exact k .non _ Hs1 (env2.push (S := []) (Grow.refl env2.view) ⟨rfl, rfl⟩ ⟨.nil, fun _ z => (List.not_mem_nil z).elim, fun _ z => (List.not_mem_nil z).elim, fun _ z => (List.not_mem_nil z).elim⟩)
  · rw [if_neg hl] at k
    exact k.elim
/-- name[e1] = e: the named item is replaced, its name has it alone -/
def outR {α β : Type} (xs : List α) (k : Int) (j : Nat) (m : α → Res β) : Res β := match ixN xs.length k with
  | some j' => if j' = j then (match xs[j]? with | some x => m x | none => .bad) else .bad
  | none => .bad
theorem bj_setIxOut (i r j : Nat) {q : Addr} {m1 : Res β} {v : β → List κ.ty.T} {m2 : β → Res Int} {xs0 : List (List κ.ty.T)} {xs : β → List (List κ.ty.T)} {G1 : β → List Slot} {ζ : Type} {finz : ζ → Fin} {m3 : β → List (List κ.ty.T) → List κ.ty.T → Res ζ} {tpos npos : Pos} (hir : i ≠ r) (ho : nmOk B.N = true) (hi : B.N[i]? = some n) (hv : Vis B.sc n)
    (hg0 : G[i]? = some (some ⟨kLK pin P (kLP pin' κ), xs0⟩)) (he : EJ B G e m1 G1 (kLP pin' κ) v) (hk : ∀ b, PJ B (G1 b) e1 tInt (m2 b)) (hg : ∀ b, (G1 b)[i]? = some (some ⟨kLK pin P (kLP pin' κ), xs b⟩)) (hgr : ∀ b, (G1 b)[r]? = some (sv (tRef q) ())) (hP : ∀ us, P us → us[j]? = some (.ref q))
    (hr : ∀ b (ys : List (List κ.ty.T)) (old : List κ.ty.T), BJ B (((G1 b).set i (some ⟨kLP pin (kLP pin' κ), ys⟩)).set r (some ⟨kLP (fun a => a = q ∧ pin' a) κ, old⟩)) rest (m3 b ys old) finz)
    (hsw : ∀ env, swapsWithSole [.Subscript (.Name n npos) e1 tpos] e pos.line env = pure false := by intro _; rfl) (hw : ∀ env, swappedStores [.Subscript (.Name n npos) e1 tpos] e env = pure none := by intro _; rfl)
    (h1 : ∀ env, (assignEach [.Subscript (.Name n npos) e1 tpos] env).map (·.2) = [assign (.Subscript (.Name n npos) e1 tpos) env] := by intro _; rfl)
    (ha : ∀ env v, assign (.Subscript (.Name n npos) e1 tpos) env v = (do
      let ov ← holding [v] (eval (.Name n npos) env)
      let iv ← holding [v, ov] (eval e1 env)
      standAt tpos
      holding [v, ov, iv] (setItem ov iv v)
      release [v, ov, iv] []) := by intro _ _; rfl) :
    BJ B G (.Assign [.Subscript (.Name n npos) e1 tpos] e pos :: rest) (m1.bind fun b => (m2 b).bind fun c => outR (xs b) c j fun old => m3 b ((xs b).set j (v b)) old) finz := fun X W ok tk => by
  have hk' : PE X e1 (fun σ H Q => ∃ b, ∃ f xok D vs Hs, XS B f xok W ∧ Env B.K f (G1 b) D σ vs H Hs ∧ (m2 b).wp xok fun c => ∀ u H' Hs', Env B.K f (G1 b) (some ⟨kVal tInt, c⟩ :: D) σ (u :: vs) H' Hs' → Q u H') := pe_ex fun b => ej_imm (hk b) imm_int X W ok.toCxOk tk
  refine pss_imp (pss_cons (ps_asg (he X W ok.toCxOk tk) (pg_sub (pe_var (i := i) (by rw [ok.N]; exact hi) (by rw [ok.sc]; exact hv) (nmOk_at ho hi).1 (nmOk_at ho hi).2) hk' set_list (ha X.env)) (hsw X.env) (hw X.env) (h1 X.env)) (pss_ex fun b => pss_ex fun ys => pss_ex fun old => hr b ys old X W ok tk)) fun D σ H ⟨f, xok, Hs, xs', env, q1⟩ => ?_
  obtain ⟨p0, us0, e1', _⟩ := env.refK hg0
  refine ⟨f, xok, [], [], Hs, xs', env, Res.wp_mono (Res.wp_bind.mp q1) fun b k1 u H1 Hs1 env1 => ?_⟩
  refine ⟨_, e1', b, f, xok, [some ⟨kLP pin' κ, v b⟩], [u], Hs1, xs', env1, Res.wp_mono (Res.wp_bind.mp k1) fun c k2 w H2 Hs2 env2 => ?_⟩
  have hu : w = .int c := env2.flat flat_int H2
  subst hu
  unfold outR at k2
  cases hj : ixN (xs b).length c with
  | none => rw [hj] at k2; exact k2.elim
  | some j' =>
    rw [hj] at k2
    by_cases hjj : j' = j
    · subst hjj
      simp only [if_true] at k2
      cases hx : (xs b)[j']? with
      | none => rw [hx] at k2; exact k2.elim
      | some old =>
        rw [hx] at k2
        obtain ⟨p1, us1, f1, f2, f3, env3⟩ := env2.pop.setOut (hg b) hP hx
        rw [e1'] at f1
        cases f1
        have hσ : σ[r]? = some (some (.ref q)) := by
          obtain ⟨SG, SD, a, bb, o⟩ := id env2
          obtain ⟨S, ov, k1, k2, w, k3, k4, k5⟩ := a.get (hgr b)
          rw [k2, k3]
          exact congrArg (fun z => some (some z)) k5
        have env4 := env3.store r
        rw [set_same hσ] at env4
        exact ⟨p0, us1, c, j', rfl, rfl, f2, by rw [f3]; exact hj, b, _, old, f, xok, Hs2, xs', env4, k2⟩
    · simp only [hjj, if_false] at k2
      exact k2.elim
/-- an own list with a known address is let go: the name keeps the pointer -/
theorem bj_toRef (r : Nat) {q : Addr} {y : List κ.ty.T} {m : Res α} (hgr : G[r]? = some (some ⟨kLP pn2 κ, y⟩)) (hp : ∀ a, pn2 a → a = q) (h : BJ B (G.set r (sv (tRef q) ())) rest m fin) : BJ B G rest m fin := fun X W ok tk =>
  pss_imp (h X W ok tk) fun D σ H ⟨f, xok, Hs, xss, env, q1⟩ => by
    have hσ : σ[r]? = some (some (.ref q)) := by
      obtain ⟨SG, SD, a, b, o⟩ := id env
      obtain ⟨S, ov, k1, k2, v, k3, p, us, Ss, k4, k5, _⟩ := a.get hgr
      rw [k2, k3, k4, hp _ k5]
    obtain ⟨v, _, env2⟩ := env.move hgr
    have env3 := env2.pop.storeVal (τ := tRef q) (x := ()) (v := .ref q) r rfl
    rw [set_same hσ, List.set_set] at env3
    exact ⟨f, xok, Hs, xss, env3, q1⟩
/-- f([x], e, ..): x a list of one's own -/
theorem ej_callL1 (r : Nat) {Gp : (Nat → Addr) → A → List Slot} {F : A → Res β} {Gr : (Nat → Addr) → β → List Slot} {zs : β → List (List κ.ty.T)} {y : β → κr.ty.T} {k : Nat} {ma : Res γ} {out : γ → List (Σ τ : Ty, τ.T)} {arg : γ → A} {xs : List κ.ty.T}
    (fn : FnAt B n ps (SpOf B.K B.mg k Gp F (fun pn b => some ⟨kLP (fun q => q = pn 0) (kLP (fun q => q = pn 1) κ), zs b⟩ :: Gr pn b) κr y)) (hgl : B.sc.names.lookup n = some .globalImplicit)
    (hi : B.N[r]? = some x) (hv : Vis B.sc x) (hg : G[r]? = some (some ⟨kLP pin κ, xs⟩)) (ha : AJ B (stab G) es ma out) (hs : ∀ pn c, Gp pn (arg c) = some ⟨kLP (fun q => q = pn 0) (kLP (fun q => q = pn 1) κ), [xs]⟩ :: svs (out c)) (hk : ∀ c, (out c).length + 1 = k)
    (hd : (x == ("__debug__" : Str)) = false := by decide) (hcd : (x == ("__classdict__" : Str)) = false := by decide)
    (hdb : (n == ("__debug__" : Str)) = false := by decide) (he1 : ∀ env, starEach [.Name x q] env = (false, eval (.Name x q) env) :: starEach [] env := by intro _; rfl) (he : ∀ env, starEach (.List [.Name x q] q2 :: es) env = (false, eval (.List [.Name x q] q2) env) :: starEach es env := by intro _; rfl) (hpl : ∀ env, (backTo pos (starEach es env)).any (·.1) = false := by intro _; rfl) (hcalm : B.calm = true := by rfl) :
    EJ B G (.Call (.Name n p) (.List [.Name x q] q2 :: es) [] pos) (ma.bind fun c => (F (arg c)).bind fun b => match zs b with | [z] => .ok (b, z) | _ => .bad) (fun c => G.set r (some ⟨kLP pin κ, c.2⟩)) κr (fun c => y c.1) := fun X W ok tk => by
  obtain ⟨f, fd, j, hj, fo, hm, hkp, hb⟩ := fn.ex
  obtain ⟨ta, a1, a2⟩ := ha
  refine pe_imp (pe_callS (ok.fn fo) ((ok.room hcalm).mono hj) (by show X.env.scope.names.lookup n = _; rw [ok.sc]; exact hgl) (by rw [ok.mg]; exact hm) (by rw [ok.K]; exact hkp) (by rw [ok.K]; exact hb)
    (fun σ => passAt tk σ) (pa_cons (pe_lst (pa_cons (pe_var (i := r) (by rw [ok.N]; exact hi) (by rw [ok.sc]; exact hv) hd hcd) pa_nil (he1 X.env))) (a1 X W ok tk) (he X.env)) hdb (he X.env) (hpl X.env)) fun σ H Q ⟨fr, xok, D, vs, Hs, xss, env, q⟩ => ?_
  obtain ⟨q0, us0, _, _, _, e1, _, _, hpin, _⟩ := env.own (E := none) hg
  refine ⟨_, e1, by show 1 ≤ sizeLine; decide, fun p0 hp0 => ?_⟩
  have env' := env.wrap1 hg e1 hp0
  have hlt : r < G.length := (List.getElem?_eq_some_iff.mp hg).1
  have hlt2 : r < σ.length := (List.getElem?_eq_some_iff.mp e1).1
  have hsame : Same H (upd H p0 (.lst [.ref q0])) := same_new hp0
  obtain ⟨p1, us, SG, SD, Ss, f1, e2, e3, _, e4, e5, a, b, o⟩ := env'.own (E := none) (List.getElem?_set_self hlt)
  rw [List.getElem?_set_self hlt2] at f1
  cases f1
  have inA : ∀ c ∈ p0 :: Ss.flatten, c ∈ SD.flatten ++ SG.flatten := fun c m => List.mem_append_right _ (List.mem_flatten.mpr ⟨_, List.mem_of_getElem? e5, m⟩)
  refine a2 W xok σ _ _ _ env'.view env.vstab ((xss.xw env).mono hsame) (Res.wp_mono (Res.wp_bind.mp q) fun c k2 ws H1 Hv1 g1 rs => ?_)
  have o1 := o.grown g1
  have hsv : ∀ c ∈ p0 :: Ss.flatten, Hv1 c = none := fun c m => o1.sep c (inA c m)
  have a1' := a.keep (K := B.K) (H' := H1) (Hs' := Hv1) (fun c _ u e => g1.same c u e) g1.up
  have b1' : Sls B.K H1 Hv1 SD (vs.map some) D := b.keep (fun c _ u e => g1.same c u e) g1.up
  have hel := e4.imp (R' := fun S v x => (kLP (fun a => a = q0) κ).rep B.K S H1 Hv1 v x) fun S v x _ r => (kLP (fun a => a = q0) κ).keep r (fun c _ u e => g1.same c u e) g1.up
  refine ⟨by rw [List.length_cons, rs.len2]; exact hk c, (fun t => match t with | 0 => p0 | _ => q0), arg c, p0 :: Ss.flatten, Hv1, xok, ?_, ?_, ?_⟩
  · rw [hs]
    exact call_start (κ := kLP (fun a => a = q0) κ) o1 e5 (g1.same _ _ e2) e3 hel g1.view (Same.refl _) hsv rs
  · refine fun ex hx cls d H' s r => xss ex hx σ cls d H' (fun c u e n => s c u (g1.same c u (hsame c u (env.pres c u e n))) fun m => ?_) r
    rcases o.orig c (inA c m) with z | z
    · exact n z
    · rw [z] at e; cases e
  · refine Res.wp_mono (Res.wp_bind.mp k2) fun bb k3 u σ' H' Hs' env'' => ?_
    obtain ⟨Hs2, env2⟩ := call_back (κ := kLP (fun a => a = q0) κ) (pin := fun _ => True) a1' b1' o1 e5 (List.getElem?_set_self hlt2) trivial (.inr (Same.refl _)) hsv env''
    rw [List.set_set] at env2
    cases hz : zs bb with
    | nil => rw [hz] at k3; exact k3.elim
    | cons z zt =>
      cases zt with
      | cons z2 zt => rw [hz] at k3; exact k3.elim
      | nil =>
        rw [hz] at k3 env2
        have env3 := env2.unwrap1 (pin := pin) (List.getElem?_set_self hlt) hpin
        rw [List.set_set, List.set_set, set_same e1] at env3
        exact k3 u H' Hs2 env3
end
end TM

set_option Elab.async false
set_option linter.all false
set_option maxRecDepth 100000
/-! TM38: names of items: what is told of the pointers while way is none of ws. -/
namespace TM
open PySem L2
def lkP (way : Int) (ws : List Int) (j1 j2 : Nat) (q1 q2 : Addr) : List V → Prop := fun us => way ∉ ws → us[j1]? = some (.ref q1) ∧ us[j2]? = some (.ref q2)
theorem lk1 {way : Int} {ws : List Int} {j1 j2 : Nat} {q1 q2 : Addr} {us : List V} (h : lkP way ws j1 j2 q1 q2 us) (n : way ∉ ws) : us[j1]? = some (.ref q1) := (h n).1
theorem lk2 {way : Int} {ws : List Int} {j1 j2 : Nat} {q1 q2 : Addr} {us : List V} (h : lkP way ws j1 j2 q1 q2 us) (n : way ∉ ws) : us[j2]? = some (.ref q2) := (h n).2
theorem eqb_true {x k : Int} (h : eqb true x k = true) : x = k := by
  unfold eqb at h
  simpa using h
theorem nlk {x k : Int} {ws : List Int} (h : eqb true x k = true) (hk : k ∉ ws := by decide) : x ∉ ws := by rw [eqb_true h]; exact hk
theorem ylk {x k : Int} {ws : List Int} (h : eqb true x k = true) (hk : k ∈ ws := by decide) : x ∈ ws := by rw [eqb_true h]; exact hk
theorem etj_val {B : Bd} {G : List Slot} {e : Expr} {b0 : Bool} (h : TJ B G e (.ok b0)) : ETJ B G e (.ok ()) (fun _ => G) (fun _ => b0) := fun X W ok tk => (etj_of h) X W ok tk
end TM

set_option Elab.async false
set_option linter.all false
set_option maxRecDepth 100000
/-! TM39: xs[e], e changes things. -/
namespace TM
open PySem L2
section
variable {B : Bd} {G : List Slot} {a b : Expr} {τ : Ty} {pos : Pos} {β γ : Type}
theorem ej_ixL {m1 : Res β} {G1 : β → List Slot} {x : β → List τ.T} {m2 : β → Res γ} {G2 : β → γ → List Slot} {k : β → γ → Int} (hs : PlainIx b) (ha : EJ B G a m1 G1 (kVal (tList τ)) x) (hb : ∀ c, EJ B (G1 c) b (m2 c) (G2 c) (kVal tInt) (k c)) :
    EJ B G (.Subscript a b pos) (m1.bind fun c => (m2 c).bind fun d => (atR (x c) (k c d)).bind fun z => .ok (c, d, z)) (fun r => G2 r.1 r.2.1) (kVal τ) fun r => r.2.2 := fun X W ok tk => by
  have hx' := ix_list (X := X)
  rw [ok.K] at hx'
  have hb' : PE X b (fun σ H Q => ∃ c, ∃ f xok D vs Hs, XS B f xok W ∧ Env B.K f (G1 c) D σ vs H Hs ∧ (m2 c).wp xok fun d => ∀ u H' Hs', Env B.K f (G2 c d) (some ⟨kVal tInt, k c d⟩ :: D) σ (u :: vs) H' Hs' → Q u H') := pe_ex fun c => hb c X W ok tk
  refine pe_imp (pe_ix hx' (ha X W ok tk) hb' hs) fun σ H Q ⟨f, xok, D, vs, Hs, xs, env, q⟩ => ?_
  refine ⟨f, xok, D, vs, Hs, xs, env, Res.wp_mono (Res.wp_bind.mp q) fun c k1 v H1 Hs1 env1 => ?_⟩
  refine ⟨c, f, xok, _, _, Hs1, xs, env1, Res.wp_mono (Res.wp_bind.mp k1) fun d k2 w H2 Hs2 env2 => ?_⟩
  have hw : w = .int (k c d) := env2.flat flat_int H2
  have env3 := env2.pop
  have rl : (tList τ).rep B.K Hs2 v (x c) := by
    obtain ⟨_, SD, _, bb, _⟩ := id env3
    cases SD with
    | nil => exact bb.elim
    | cons S SD =>
      obtain ⟨w, ew, _, r⟩ := bb.1
      cases ew
      exact r
  cases e : atR (x c) (k c d) with
  | ok z =>
    rw [e] at k2
    exact o2_ixL H2 Hs2 v w _ _ Q env3.view rl hw z e fun u H3 Hv3 g r3 => k2 u H3 Hv3 (env3.pop.push (S := []) (κ := kVal τ) g ⟨rfl, r3⟩ fresh_nil)
  | exc ex => exact (atR_exc e).elim
  | bad => rw [e] at k2; exact k2.elim
theorem ins_bd {c : Int} {n : Nat} (h1 : 0 ≤ c) (h2 : c.toNat ≤ n) (h3 : n < sizeLine) : c < 2 ^ 63 := by
  have hzz : sizeLine < 2 ^ 62 := by decide
  omega
/-- xs.insert(k, e) -/
theorem ej_insert {κ : Kd} {n : Str} {p apos cpos : Pos} {e e1 : Expr} {pin : Addr → Prop} (i : Nat) {mk : Res Int} {m1 : Res β} {G1 : β → List Slot} {v : β → κ.ty.T} {xs0 : List κ.ty.T} {xs : β → List κ.ty.T} (hi : B.N[i]? = some n) (hv : Vis B.sc n) (hg0 : G[i]? = some (some ⟨kLP pin κ, xs0⟩)) (hk : PJ B G e1 tInt mk) (he : EJ B G e m1 G1 κ v) (hg : ∀ b, (G1 b)[i]? = some (some ⟨kLP pin κ, xs b⟩))
    (hd : (n == ("__debug__" : Str)) = false := by decide) (hcd : (n == ("__classdict__" : Str)) = false := by decide) 
    (hb : ∀ env, attributeBase (.Name n p) "insert" env (eval (.Name n p) env) = eval (.Name n p) env := by intro _; rfl)
    (hfew : ∀ env, ((backTo cpos (starEach [e1, e] env)).all (fun x => !x.1) && (backToKw cpos (keywordEach [] env)).all (fun x => x.1.isSome) && decide (([e1, e] : List Expr).length + ([] : List Keyword).length + (if ([] : List Keyword).isEmpty then 0 else 1) < 30)) = true := by intro _; rfl)
    (hline : (apos.endLine == cpos.line) = true := by rfl) (hst : ∀ env, starEach [e1, e] env = (false, eval e1 env) :: starEach [e] env := by intro _; rfl) (hst2 : ∀ env, starEach [e] env = (false, eval e env) :: starEach [] env := by intro _; rfl) (hpl : ∀ env, (backTo cpos (starEach [e] env)).any (·.1) = false := by intro _; rfl) :
    EJ B G (.Call (.Attribute (.Name n p) "insert" apos) [e1, e] [] cpos) (mk.bind fun c => m1.bind fun b => (insR (xs b) c (v b)).bind fun ys => .ok (b, ys)) (fun c => (G1 c.1).set i (some ⟨kLP pin κ, c.2⟩)) (kVal tNone) fun _ => () := fun X W ok tk => by
  refine pe_imp (pe_bm PySem.F.plainAttrs_list PySem.F.slot_list_insert PySem.F.type_list_insert mt_insert (pe_var (i := i) (by rw [ok.N]; exact hi) (by rw [ok.sc]; exact hv) hd hcd) (pa_cons (ej_imm hk imm_int X W ok tk) (pa_cons (he X W ok tk) pa_nil (hst2 X.env)) (hst X.env)) (hb X.env) (hfew X.env) hline (hst X.env) (hpl X.env)) fun σ H Q ⟨f, xok, D, vs, Hs, xs', env, q⟩ => ?_
  obtain ⟨p0, us0, e1, e2⟩ := own_var env hg0
  refine ⟨_, e1, .inl ⟨rfl, us0, SqL.of e2⟩, ?_⟩
  refine ⟨f, xok, D, vs, Hs, xs', env, Res.wp_mono (Res.wp_bind.mp q) fun c k0 u0 H0 Hs0 env0 => ?_⟩
  have hu : u0 = .int c := env0.flat flat_int H0
  subst hu
  refine ⟨f, xok, D, vs, Hs0, xs', env0.pop, Res.wp_mono (Res.wp_bind.mp k0) fun b k u H1 Hs1 env1 => ?_⟩
  unfold insR gate at k
  by_cases hl : (xs b).length < sizeLine ∧ 0 ≤ c ∧ c.toNat ≤ (xs b).length
  · rw [if_pos hl] at k
    obtain ⟨h3, h1, h2⟩ := hl
    have h4 := ins_bd h1 h2 h3
    obtain ⟨p1, us1, f1, f2, f3, env2⟩ := env1.insert (hg b) h2 h3
    rw [e1] at f1
    cases f1
    refine ⟨p0, us1, c, u, rfl, rfl, f2, by rw [f3]; exact h3, h1, h4, ?_⟩
    exact k .non _ Hs1 (env2.push (S := []) (Grow.refl env2.view) ⟨rfl, rfl⟩ fresh_nil)
  · rw [if_neg hl] at k
    exact k.elim
end
end TM

set_option Elab.async false
set_option linter.all false
set_option maxRecDepth 100000
/-! TM40: what the top leaves, told by names; the walk's end. -/
namespace TM
open PySem L2 He
/-- facts of classes: kitOne (isinstance), what isinstance asks of own classes, of own errors -/
inductive Fb where
  | kit (x y : Str) (b : Bool)
  | kitT (x : Str) (T : String) (b : Bool)
  | ins (x : Str)
  | exc (x : Str)
def Fb.ok (K : Fg) : Fb → Bool
  | .kit x y b => decide (PySem.W.kitOne K (.ref (ga K x)) (.ref (ga K y)) = some b)
  | .kitT x T b => decide (PySem.W.kitOne K (.ref (ga K x)) (.type T) = some b)
  | .ins x => eqO (PySem.W.findIn K (.ref (ga K x)) "__class__") (some (some (.builtin "object.__class__"))) && (eqO (PySem.W.specialIn K (.builtin "object.__class__") "__get__") (some (some (.builtin "getset_descriptor.__get__"))) && (decide (PySem.W.takesIn K (.builtin "object.__class__") = some true) && decide (PySem.W.mroIn K (ga K x) (.type "object") = some true)))
  | .exc x => eqO (PySem.W.findIn K (.ref (ga K x)) "__getattribute__") (some (some (.builtin "BaseException.__getattribute__"))) && (eqO (PySem.W.findIn K (.ref (ga K x)) "__getattr__") (some none) && (decide (PySem.W.subIn K (.ref (ga K x)) (.type "BaseException") = some true) && (PySem.W.hasDictIn K (ga K x) &&
    (eqO (PySem.W.findIn K (.ref (ga K x)) "__class__") (some (some (.builtin "object.__class__"))) && (eqO (PySem.W.specialIn K (.builtin "object.__class__") "__get__") (some (some (.builtin "getset_descriptor.__get__"))) && (decide (PySem.W.takesIn K (.builtin "object.__class__") = some true) && decide (PySem.W.mroIn K (ga K x) (.type "object") = some true)))))))
section
variable {K : Fg} {h : Heap} {mg : Str → Option Value}
theorem kit_ok {x y : Str} {b : Bool} (c : (Fb.kit x y b).ok K = true) : PySem.W.kitOne K (.ref (ga K x)) (.ref (ga K y)) = some b := of_decide_eq_true c
theorem kitT_ok {x : Str} {T : String} {b : Bool} (c : (Fb.kitT x T b).ok K = true) : PySem.W.kitOne K (.ref (ga K x)) (.type T) = some b := of_decide_eq_true c
theorem ins_ok {x : Str} (cl : Cls K (ga K x)) (c : (Fb.ins x).ok K = true) : InsC K (ga K x) := by
  obtain ⟨c1, c⟩ := ba c
  obtain ⟨c2, c⟩ := ba c
  obtain ⟨c3, c4⟩ := ba c
  exact ⟨cl, eqO_ok c1, eqO_ok c2, of_decide_eq_true c3, of_decide_eq_true c4⟩
theorem excc_ok {x : Str} (c : (Fb.exc x).ok K = true) : ExcC K (ga K x) := by
  obtain ⟨c1, c⟩ := ba c
  obtain ⟨c2, c⟩ := ba c
  obtain ⟨c3, c⟩ := ba c
  obtain ⟨c4, c⟩ := ba c
  obtain ⟨c5, c⟩ := ba c
  obtain ⟨c6, c⟩ := ba c
  obtain ⟨c7, c8⟩ := ba c
  exact ⟨eqO_ok c1, eqO_ok c2, of_decide_eq_true c3, c4, eqO_ok c5, eqO_ok c6, of_decide_eq_true c7, of_decide_eq_true c8⟩
theorem exg_ok (X : K.In h) (G : h.Ns mainGlobals mg) {x : Str} (g : (Fa.glo x).ok K = true) (c : (Fa.exc x).ok K = true) : ExG K mg x := ⟨_, glo_ok X G g, exc_ok c⟩
theorem exmg_ok (X : K.In h) (G : h.Ns mainGlobals mg) {x y : Str} {b : Bool} (g : (Fa.glo x).ok K = true) (c : (Fa.exm x y b).ok K = true) : ExMG K mg (ga K y) x b := ⟨_, glo_ok X G g, exm_ok c⟩
theorem ieg_ok (X : K.In h) (G : h.Ns mainGlobals mg) {x y : Str} {b : Bool} (g : (Fa.glo x).ok K = true) (g2 : (Fa.glo y).ok K = true) (e : (Fb.exc x).ok K = true) (c : (Fb.kit x y b).ok K = true) : IsEG K mg x y b :=
  ⟨_, glo_ok X G g, excc_ok e, .inl ⟨_, glo_ok X G g2, kit_ok c⟩⟩
theorem iegT_ok (X : K.In h) (G : h.Ns mainGlobals mg) {x y : Str} {T : String} {b : Bool} (g : (Fa.glo x).ok K = true) (g2 : (Fa.free y).ok K = true) (e : (Fb.exc x).ok K = true) (hb : bootBuiltins y = some (.type T)) (hn : y ≠ "__name__") (c : (Fb.kitT x T b).ok K = true) : IsEG K mg x y b :=
  ⟨_, glo_ok X G g, excc_ok e, .inr ⟨_, free_ok X G g2, hb, hn, kitT_ok c⟩⟩
end
/-! ### the Hook -/
abbrev AlM : Type := AlD × Bool
def obsM (fa : List Fa) (fn : List DefD) (fb : List Fb) (K : Fg) : AlM := (obsD fa fn K, fb.all fun f => f.ok K)
def valM (fn : List DefD) : AlM := (valD fn, true)
def SaysM (fa : List Fa) (fn : List DefD) (fb : List Fb) (K : Fg) : Prop := obsM fa fn fb K = valM fn
def obsMG (n : Nat) (fa : List Fa) (fn : List DefD) (fb : List Fb) (g : Addr → Option Obj) : AlM := obsM fa fn fb (frG g (asD g n))
def hookM (n : Nat) (fa : List Fa) (fn : List DefD) (fb : List Fb) : PySem.W.Hook where
  α := AlM
  obs := fun s => obsMG n fa fn fb s.heap.get?
  val := fun _ => valM fn
  says := fun _ h => ∃ K : PySem.W.Frag, K.In h ∧ SaysM fa fn fb K
  of := fun _ _ e => ⟨_, frG_in, e⟩
  keeps := fun _ _ _ ⟨K, hK, c⟩ k => ⟨K, PySem.W.Frag.In.keeps hK k, c⟩
theorem obsMG_eq {n : Nat} {fa : List Fa} {fn : List DefD} {fb : List Fb} {g : Addr → Option Obj} {s : Shared} (h : ∀ a, g a = s.heap.get? a) : obsMG n fa fn fb g = (hookM n fa fn fb).obs s := by
  have e : g = s.heap.get? := funext h
  rw [e] <;> rfl
section
variable {fa : List Fa} {fn : List DefD} {fb : List Fb} {K : Fg}
theorem SaysM.d (c : SaysM fa fn fb K) : SaysD fa fn K := congrArg (fun z : AlM => z.1) c
theorem SaysM.fact (c : SaysM fa fn fb K) (i : Nat) {f : Fa} (h : fa[i]? = some f := by rfl) : f.ok K = true := c.d.fact i h
theorem SaysM.extra (c : SaysM fa fn fb K) (i : Nat) {f : Fb} (h : fb[i]? = some f := by rfl) : f.ok K = true :=
  List.all_eq_true.mp (show (fb.all fun f => f.ok K) = true from congrArg (fun z : AlM => z.2) c) f (List.mem_of_getElem? h)
theorem SaysM.def_ (c : SaysM fa fn fb K) (i : Nat) {d : DefD} (h : fn[i]? = some d := by rfl) : ∃ fd, FunD K d.name d.qual d.params d.body d.scope (d.dvs K) (d.kws K) (fAd K d.at_) fd := c.d.def_ i h
end
/-! ### defs by FunD -/
section
variable {P : Program} {w : World} {K : Fg} {mg : Str → Option Value} {base : Heap}
theorem fn_okD {x qual : Str} {st : Stmt} {f : Addr} {fd : FuncData} {N ps : List Str} {k n : Nat} {A β : Type} {Gp : (Nat → Addr) → A → List Slot} {F : A → Res β} {Gx : (Nat → Addr) → β → List Slot} {κ : Kd} {y : β → κ.ty.T}
    (Fn : FunD K x qual (defArgs st) (defBody st) (defScope st) [] [] f fd) (S : FnScope N ps (defScope st)) (hn : n = ps.length)
    (body : ∀ pn a, BJ (bdOf P w K mg base k N st) (Gp pn a ++ List.replicate (N.length - n) none) (defBody st) (F a) fun b => .rt (Gx pn b) κ (y b)) :
    FnOk P w K mg base (L2.CX P w) (k + 1) f fd ps (SpOf K mg n Gp F Gx κ y) := by
  refine FunD.ok Fn S (fun vs H Q E h => h.1.trans hn) fun cdv A outer s H vs Q E hr h => ?_
  obtain ⟨hl, pn, a, S0, Hv, xok, env, hx, q⟩ := h
  refine ⟨_, body pn a _ (fun cls d _ H => E cls d H) ⟨⟨rfl, rfl, rfl, rfl, rfl, fun _ => hr, rfl, rfl, rfl, trivial⟩, passes_of rfl, fun _ => rfl, rfl, rfl⟩ (takes_of rfl rfl rfl rfl), ⟨H, Hv, S0⟩, xok, Hv, ?_, ?_, ?_⟩
  · exact fun ex he σ cls d H' p r => hx ex he cls d H' p r
  · have e := env.pad (N.length - n)
    rw [← hl] at e
    rw [← hl]
    exact e
  · exact Res.wp_mono q fun b k v σ' H' Hs' e => k v σ' H' Hs' e
theorem fn_okDN {x qual : Str} {st : Stmt} {f : Addr} {fd : FuncData} {N ps : List Str} {k n : Nat} {A β : Type} {Gp : (Nat → Addr) → A → List Slot} {F : A → Res β} {Gx : (Nat → Addr) → β → List Slot}
    (Fn : FunD K x qual (defArgs st) (defBody st) (defScope st) [] [] f fd) (S : FnScope N ps (defScope st)) (hn : n = ps.length)
    (body : ∀ pn a, BJ (bdOf P w K mg base k N st) (Gp pn a ++ List.replicate (N.length - n) none) (defBody st) (F a) fun b => .nx (Gx pn b)) :
    FnOk P w K mg base (L2.CX P w) (k + 1) f fd ps (SpOf K mg n Gp F Gx (kVal tNone) fun _ => ()) := by
  refine FunD.ok Fn S (fun vs H Q E h => h.1.trans hn) fun cdv A outer s H vs Q E hr h => ?_
  obtain ⟨hl, pn, a, S0, Hv, xok, env, hx, q⟩ := h
  refine ⟨_, body pn a _ (fun cls d _ H => E cls d H) ⟨⟨rfl, rfl, rfl, rfl, rfl, fun _ => hr, rfl, rfl, rfl, trivial⟩, passes_of rfl, fun _ => rfl, rfl, rfl⟩ (takes_of rfl rfl rfl rfl), ⟨H, Hv, S0⟩, xok, Hv, ?_, ?_, ?_⟩
  · exact fun ex he σ cls d H' p r => hx ex he cls d H' p r
  · have e := env.pad (N.length - n)
    rw [← hl] at e
    rw [← hl]
    exact e
  · refine Res.wp_mono q fun b k σ' H' Hs' e => k .non σ' H' Hs' ?_
    exact e.push (S := []) (Grow.refl e.view) ⟨rfl, rfl⟩ ⟨.nil, fun _ z => (List.not_mem_nil z).elim, fun _ z => (List.not_mem_nil z).elim, fun _ z => (List.not_mem_nil z).elim⟩
end
/-! ### the law -/
theorem cx_none {P : Program} {w : World} {H : Hp} {s s' : Shared} {e : Value} (c : L2.CX P w [] H s (fun _ _ _ => False) e s') : False := by
  obtain ⟨a, B, H', cls, d, _, _, _, _, _, _, _, z⟩ := c
  exact z
theorem scr_start {K : Fg} {mg : Str → Option Value} {β : Type} {F : List Int × Unit → Res β} {Gx : (Nat → Addr) → β → List Slot} {y : β → Bool} {H : Hp} {a : Addr} {ns : List Int} {b : β} (hl : ns.length ≤ 63) (hO : Only H) (hS : SqL K H a (ns.map V.int)) (hF : F (ns, ()) = .ok b) (hy : y b = true) :
    SpOf K mg 1 (fun _ a => [sv tScr a.1]) F Gx (kVal tBool) y [.ref a] H (fun v _ => v = .bl true) fun _ _ _ => False := by
  refine ⟨rfl, fun _ => 0, (ns, ()), [], H, fun _ => False, ?_, fun ex h => h.elim, ?_⟩
  · refine ⟨[[]], [], ⟨⟨_, rfl, rfl, a, rfl, hS, Nat.le_trans hl (by decide)⟩, trivial⟩, trivial, ?_⟩
    exact ⟨.nil, fun _ z => (List.not_mem_nil z).elim, fun _ z => (List.not_mem_nil z).elim, View.refl H, fun _ z => (List.not_mem_nil z).elim, Same.refl H, fun _ _ e => .inl e, fun _ _ e _ => e, fun _ _ e => ⟨_, e⟩⟩
  · rw [hF]
    intro v σ' H' Hs' env
    have h := env.flat flat_bool H'
    have h' : v = .bl (y b) := h
    rw [h', hy]
/-- the law's end -/
theorem walk_ofM {l : PySem.W.OpenLaw} {n k : Nat} {q : Program} {loose : List Str} {XP : (Str → Option Value) → Heap → Prop} {YP : World → Heap → Prop} {d : DefRec} {x : Str}
    (hn : l.most = some n) (hn2 : n ≤ sizeLine) (hdf : d.params.defaults = []) (hr : Room k callerA)
    (F : ∀ (w : World) (mg : Str → Option Value) (fa : Addr) (h : Heap), YP w h → h.Ns mainGlobals mg → mg d.name = some (.ref fa) →
      ∃ (K : PySem.W.Frag) (fd : FuncData) (sp : Sp), K.In h ∧ (∀ (s : Shared) (u : Value), BindsTo s fd ⟨[u], []⟩ [(x, u)]) ∧
        (∀ (H : Hp) (a : Addr) (ns : List Int), ns.length ≤ n → Only H → SqL K H a (ns.map V.int) → sp [.ref a] H (fun v _ => v = .bl true) fun _ _ _ => False) ∧
        ∀ base : Heap, K.In base → base.Ns mainGlobals mg → FnOk l.prog w K mg base (L2.CX l.prog w) k fa fd [x] sp) :
    PySem.W.WalkO q loose XP YP l.row.toRowW d [] (fun f vs => PySem.call f vs) := by
  refine Att.attach_call hn hdf fun w s₀ s₁ mg mb fa o pm cd doc a vs ns G Y ho hd hcd hmg hobj hints hlen hg => ?_
  obtain ⟨K, fd, sp, KX, hb, hsp, hF⟩ := F w mg fa _ Y G.T.g hmg
  exact law_call KX G.T.g G.T.b G.T.builtins G.T.nolimit hg hobj hints (Nat.le_trans hlen hn2) hr hF hb (fun H hO hS => hsp H a ns hlen hO hS) fun H e s' => cx_none
end TM

set_option Elab.async false
set_option linter.all false
set_option maxRecDepth 100000
/-! TP0: plain laws of the mirrors' words. -/
namespace TM
open PySem L2
theorem nr {α : Sort u} {a b : α} (h : a = b) : a = b := h
theorem okb {α β : Type} {x : α} {f : α → Res β} : (Res.ok x).bind f = f x := nr rfl
/-- it ends, and what it gives is so -/
def Res.yes {α : Type} (m : Res α) (Q : α → Prop) : Prop := ∃ x, m = .ok x ∧ Q x
theorem yes_ok {α : Type} {x : α} {Q : α → Prop} (h : Q x) : (Res.ok x).yes Q := ⟨x, rfl, h⟩
theorem yes_eq {α : Type} {m : Res α} {x : α} {Q : α → Prop} (e : m = .ok x) (h : Q x) : m.yes Q := ⟨x, e, h⟩
theorem yes_bind {α β : Type} {m : Res α} {f : α → Res β} {P : α → Prop} {Q : β → Prop} (h : m.yes P) (k : ∀ x, P x → (f x).yes Q) : (m.bind f).yes Q := by
  obtain ⟨x, rfl, p⟩ := h
  exact k x p
theorem yes_mono {α : Type} {m : Res α} {P Q : α → Prop} (h : m.yes P) (k : ∀ x, P x → Q x) : m.yes Q := by
  obtain ⟨x, e, p⟩ := h
  exact ⟨x, e, k x p⟩
theorem yes_calm {α : Type} {m : Res α} {Q : α → Prop} (h : m.yes Q) : m.calm.yes Q := by
  obtain ⟨x, rfl, p⟩ := h
  exact ⟨x, rfl, p⟩
theorem calm_ok {α : Type} {x : α} : (Res.ok x).calm = .ok x := nr rfl
theorem map_ok {α β : Type} {x : α} {f : α → β} : (Res.ok x).map f = .ok (f x) := nr rfl
theorem map_exc {α β : Type} {e : Exc} {f : α → β} : (Res.exc e : Res α).map f = .exc e := nr rfl
theorem exc_bind {α β : Type} {e : Exc} {f : α → Res β} : (Res.exc e : Res α).bind f = .exc e := nr rfl
theorem items_l {τ : Ty} {x : List τ.T} : (sqList τ).items x = x := nr rfl
theorem items_t {τ : Ty} {x : List τ.T} : (sqTup τ).items x = x := nr rfl
theorem bindA {α β γ : Type} {m : Res α} {f : α → Res β} {g : β → Res γ} : (m.bind f).bind g = m.bind fun x => (f x).bind g := by cases m <;> rfl
theorem bind_id {α : Type} {m : Res α} : m.bind Res.ok = m := by cases m <;> rfl
theorem bind_id' {α : Type} {m : Res α} : (m.bind fun x => .ok x) = m := by cases m <;> rfl
theorem bind_eq {α β : Type} {m : Res α} {x : α} {f : α → Res β} (e : m = .ok x) : m.bind f = f x := by rw [e]; rfl
/-! ### numbers -/
abbrev nats (n : Nat) : List Int := (List.range n).map fun k => ((k : Nat) : Int)
theorem nats_len {n : Nat} : (nats n).length = n := by simp
theorem nats_get {n k : Nat} (h : k < n) : (nats n)[k]? = some (k : Int) := by simp [h]
theorem nats_succ {n : Nat} : nats (n + 1) = nats n ++ [(n : Int)] := by
  unfold nats
  rw [List.range_succ, List.map_append]; rfl
theorem nats_mem {n : Nat} {x : Int} : x ∈ nats n ↔ 0 ≤ x ∧ x < n := by
  constructor
  · intro h
    obtain ⟨k, h1, rfl⟩ := List.mem_map.mp h
    have := List.mem_range.mp h1
    omega
  · intro ⟨h1, h2⟩
    exact List.mem_map.mpr ⟨x.toNat, List.mem_range.mpr (by omega), by omega⟩
theorem nats_nodup {n : Nat} : (nats n).Nodup := by
  refine List.Pairwise.map _ (fun a b h => ?_) List.nodup_range
  intro e
  exact h (by omega)
theorem nats_asc {n : Nat} : (nats n).Pairwise (· ≤ ·) := by
  refine List.Pairwise.map _ (fun a b h => ?_) List.pairwise_lt_range
  omega
theorem rngL_nat {n : Nat} : rngL 0 (n : Int) = nats n := by
  unfold rngL nats
  rw [show ((n : Int) - 0).toNat = n by omega]
  exact List.map_congr_left fun k _ => by omega
theorem sizeLine_big {n : Nat} (h : n < 2 ^ 24) : n < sizeLine := h
theorem rng1_nat {n : Nat} (h : n < 2 ^ 24) : rng1 (n : Int) = .ok (nats n) := by
  unfold rng1
  rw [gate_ok ⟨by omega, by omega⟩, rngL_nat]
theorem rngC_nat {n : Nat} (h : n < 2 ^ 24) : rngC 0 (n : Int) = .ok (nats n) := by
  unfold rngC
  rw [gate_ok ⟨⟨by omega, by omega⟩, ⟨by omega, by omega⟩, by have := sizeLine_big h; omega⟩, rngL_nat]
theorem modR_ok {x y : Int} (h : 0 < y) : modR x y = .ok (x % y) := gate_ok h
theorem divR_ok {x y : Int} (h : 0 < y) (h2 : y < 1073741824) : divR x y = .ok (x / y) := gate_ok ⟨h, h2⟩
theorem mulR_okL {x y : Int} (h : -(2 ^ 64) < x) (h2 : x < 2 ^ 64) : mulR x y = .ok (x * y) := gate_ok (.inl ⟨h, h2⟩)
theorem mulR_okR {x y : Int} (h : -(2 ^ 64) < y) (h2 : y < 2 ^ 64) : mulR x y = .ok (x * y) := gate_ok (.inr ⟨h, h2⟩)
theorem eqb_tt {α : Type} [DecidableEq α] {x y : α} : (eqb true x y = true) = (x = y) := by simp [eqb]
theorem eqb_ft {α : Type} [DecidableEq α] {x y : α} : (eqb false x y = true) = (x ≠ y) := by simp [eqb]
theorem eqb_t {α : Type} [i : DecidableEq α] {x y : α} [j : Decidable (x = y)] : @eqb α i true x y = @decide (x = y) j := by
  unfold eqb
  by_cases h : x = y <;> simp [h]
theorem eqb_f {α : Type} [i : DecidableEq α] {x y : α} [j : Decidable (x = y)] : @eqb α i false x y = !@decide (x = y) j := by
  unfold eqb
  by_cases h : x = y <;> simp [h]
/-! ### lists by places -/
theorem ixN_nat {n k : Nat} (h : k < n) : ixN n (k : Int) = some k := by
  unfold ixN
  rw [if_pos (by omega), if_pos (by omega)]
  rfl
theorem atR_nat {α : Type} {xs : List α} {k : Nat} {x : α} (h : xs[k]? = some x) : atR xs (k : Int) = .ok x := by
  unfold atR atI
  have hl := (List.getElem?_eq_some_iff.mp h).1
  rw [ixN_nat hl]
  show (match xs[k]? with | some x => Res.ok x | none => .bad) = _
  rw [h]
theorem atR_int {α : Type} {xs : List α} {i : Int} {x : α} (h0 : 0 ≤ i) (h : xs[i.toNat]? = some x) : atR xs i = .ok x := by
  have := atR_nat h
  rw [Int.toNat_of_nonneg h0] at this
  exact this
theorem setR_nat {α : Type} {xs : List α} {k : Nat} {x : α} (h : k < xs.length) : setR xs (k : Int) x = .ok (xs.set k x) := by
  unfold setR
  rw [ixN_nat h]
theorem setR_int {α : Type} {xs : List α} {i : Int} {x : α} (h0 : 0 ≤ i) (h : i.toNat < xs.length) : setR xs i x = .ok (xs.set i.toNat x) := by
  have := setR_nat (x := x) h
  rw [Int.toNat_of_nonneg h0] at this
  exact this
theorem appR_ok {α : Type} {xs : List α} {x : α} (h : xs.length < 2 ^ 24) : appR xs x = .ok (xs ++ [x]) := gate_ok (sizeLine_big h)
theorem borR_nat {α : Type} {xs : List α} {k : Nat} {x : α} (h : xs[k]? = some x) : borR xs (k : Int) = .ok (k, x) := by
  unfold borR
  rw [ixN_nat (List.getElem?_eq_some_iff.mp h).1]
  show (match xs[k]? with | some x => Res.ok (k, x) | none => .bad) = _
  rw [h]
theorem popR_nat {α : Type} {xs : List α} {k : Nat} {x : α} (h : xs[k]? = some x) : popR xs (k : Int) = .ok (xs.eraseIdx k, x) := by
  unfold popR
  rw [ixN_nat (List.getElem?_eq_some_iff.mp h).1]
  show (match xs[k]? with | some x => Res.ok (xs.eraseIdx k, x) | none => .bad) = _
  rw [h]
theorem lendR_nat {α β : Type} {xs : List α} {k : Nat} {x : α} {m : α → Res β} (h : xs[k]? = some x) : lendR xs k m = m x := by
  unfold lendR
  rw [h]
theorem popE_ok {α : Type} {xs : List α} {x : α} : popE (xs ++ [x]) = .ok (xs, x) := by
  unfold popE
  simp
theorem popE_ne {α : Type} {xs : List α} (h : xs ≠ []) : popE xs = .ok (xs.dropLast, xs.getLast h) := by
  have e := List.dropLast_concat_getLast h
  conv => lhs; rw [← e]
  exact popE_ok
theorem idxR_ok {xs : List Int} {k : Nat} {x : Int} (h : xs[k]? = some x) (hf : ∀ j, j < k → xs[j]? ≠ some x) : idxR xs x = .ok (k : Int) := by
  have e : xs.findIdx? (fun y => decide (y = x)) = some k := by
    rw [List.findIdx?_eq_some_iff_getElem]
    obtain ⟨hl, e⟩ := List.getElem?_eq_some_iff.mp h
    refine ⟨hl, by simp [e], fun j hj => ?_⟩
    have := hf j hj
    rw [List.getElem?_eq_getElem (Nat.lt_trans hj hl)] at this
    simpa using this
  unfold idxR
  rw [e]
/-! ### loops -/
theorem forM_yes {α β : Type} {g : α → β → Res β} (I : Nat → β → Prop) {Q : β → Prop} : ∀ {xs : List α} {s : β} (j : Nat), I j s → (∀ k x s, xs[k]? = some x → I (j + k) s → (g x s).yes (I (j + k + 1))) → (∀ s, I (j + xs.length) s → Q s) → (forM xs s g).yes Q
  | [], s, j, h, _, f => yes_ok (f s h)
  | x :: xs, s, j, h, st, f => by
    unfold forM
    refine yes_bind (st 0 x s rfl h) fun s' h' => forM_yes I (j + 1) h' (fun k y s e i => ?_) fun s i => f s ?_
    · have := st (k + 1) y s (by simpa using e) (by rw [show j + (k + 1) = j + 1 + k by omega]; exact i)
      rw [show j + (k + 1) + 1 = j + 1 + k + 1 by omega] at this
      exact this
    · rw [List.length_cons, show j + (xs.length + 1) = j + 1 + xs.length by omega]; exact i
theorem forM_nats {β : Type} {g : Int → β → Res β} {n : Nat} {s : β} (I : Nat → β → Prop) (h : I 0 s) (st : ∀ k s, k < n → I k s → (g (k : Int) s).yes (I (k + 1))) : (forM (nats n) s g).yes (I n) := by
  refine forM_yes I 0 h (fun k x s e i => ?_) fun s i => ?_
  · have hk : k < n := by
      have := (List.getElem?_eq_some_iff.mp e).1
      rw [nats_len] at this; exact this
    rw [nats_get hk] at e
    cases e
    rw [Nat.zero_add] at i ⊢
    exact st k s hk i
  · rw [nats_len, Nat.zero_add] at i; exact i
theorem comp_ok {α β : Type} {g : α → Res β} {f : α → β} : ∀ {xs : List α}, (∀ x, x ∈ xs → g x = .ok (f x)) → compR xs (fun _ => .ok true) g = .ok (xs.map f)
  | [], _ => rfl
  | x :: xs, h => by
    have e := h x List.mem_cons_self
    unfold compR
    show (((g x).calm.bind fun y => (compR xs (fun _ => .ok true) g).bind fun ys => .ok (y :: ys))) = _
    rw [e, calm_ok, okb, comp_ok fun y hy => h y (List.mem_cons_of_mem _ hy)]
    rfl
theorem comp_filter {α β : Type} {c : α → Bool} {g : α → Res β} {f : α → β} : ∀ {xs : List α}, (∀ x, x ∈ xs → c x = true → g x = .ok (f x)) → compR xs (fun x => .ok (c x)) g = .ok ((xs.filter c).map f)
  | [], _ => rfl
  | x :: xs, h => by
    have ih := comp_filter (c := c) (g := g) (f := f) (xs := xs) fun y hy => h y (List.mem_cons_of_mem _ hy)
    unfold compR
    rw [calm_ok, okb]
    cases hc : c x with
    | true =>
      rw [if_pos rfl, h x List.mem_cons_self hc, calm_ok, okb, ih, okb, List.filter_cons, if_pos hc, List.map_cons]
    | false =>
      rw [if_neg (by simp), ih, List.filter_cons, if_neg (by simp [hc])]
theorem comp_nats {β : Type} {g : Int → Res β} {f : Nat → β} {n : Nat} (h : ∀ k, k < n → g (k : Int) = .ok (f k)) : compR (nats n) (fun _ => .ok true) g = .ok ((List.range n).map f) := by
  rw [comp_ok (f := fun x => f x.toNat)]
  · rw [List.map_map]; rfl
  · intro x hx
    obtain ⟨k, h1, rfl⟩ := List.mem_map.mp hx
    exact h k (List.mem_range.mp h1)
/-- a loop that may be left -/
theorem forR_yes {α β ζ : Type} {g : α → β → Res (Step ζ β)} (I : Nat → β → Prop) {Q : Done ζ β → Prop} : ∀ {xs : List α} {s : β} (j : Nat), I j s →
    (∀ k x s, xs[k]? = some x → I (j + k) s → (g x s).yes fun r => match r with | .nx s' => I (j + k + 1) s' | .bk s' => Q (.go s') | .rt z => Q (.rt z)) → (∀ s, I (j + xs.length) s → Q (.go s)) → (forR xs s g).yes Q
  | [], s, j, h, _, f => yes_ok (f s h)
  | x :: xs, s, j, h, st, f => by
    unfold forR
    refine yes_bind (st 0 x s rfl h) fun r h' => ?_
    cases r with
    | nx s' =>
      refine forR_yes I (j + 1) h' (fun k y s e i => ?_) fun s i => f s ?_
      · have := st (k + 1) y s (by simpa using e) (by rw [show j + (k + 1) = j + 1 + k by omega]; exact i)
        rw [show j + (k + 1) + 1 = j + 1 + k + 1 by omega] at this
        exact this
      · rw [List.length_cons, show j + (xs.length + 1) = j + 1 + xs.length by omega]; exact i
    | bk s' => exact yes_ok h'
    | rt z => exact yes_ok h'
/-- a loop that goes on to its end, nothing carried -/
theorem forR_go {α ζ : Type} {g : α → Unit → Res (Step ζ Unit)} : ∀ {xs : List α}, (∀ x, x ∈ xs → g x () = .ok (.nx ())) → forR xs () g = .ok (.go ())
  | [], _ => rfl
  | x :: xs, h => by
    unfold forR
    rw [h x List.mem_cons_self, okb]
    exact forR_go fun y hy => h y (List.mem_cons_of_mem _ hy)
/-- a loop that searches: it returns z at the first item with p -/
theorem forR_find {α ζ : Type} {z : ζ} {p : α → Bool} {g : α → Unit → Res (Step ζ Unit)} : ∀ {xs : List α}, (∀ x, x ∈ xs → g x () = .ok (if p x = true then .rt z else .nx ())) → forR xs () g = .ok (if xs.any p = true then .rt z else .go ())
  | [], _ => rfl
  | x :: xs, h => by
    unfold forR
    rw [h x List.mem_cons_self, okb]
    cases hp : p x with
    | true => simp [hp]
    | false =>
      simp only [Bool.false_eq_true, if_false, List.any_cons, hp, Bool.false_or]
      exact forR_find fun y hy => h y (List.mem_cons_of_mem _ hy)
/-- .. up to the first item with p that raises -/
theorem forM_exc {α : Type} {ex : Exc} {p : α → Bool} {g : α → Unit → Res Unit} : ∀ {xs : List α}, (∀ x, x ∈ xs → g x () = if p x = true then .exc ex else .ok ()) → forM xs () g = if xs.any p = true then .exc ex else .ok ()
  | [], _ => rfl
  | x :: xs, h => by
    unfold forM
    rw [h x List.mem_cons_self]
    cases hp : p x with
    | true => simp [hp, Res.bind]
    | false =>
      simp only [Bool.false_eq_true, if_false, List.any_cons, hp, Bool.false_or, okb]
      exact forM_exc fun y hy => h y (List.mem_cons_of_mem _ hy)
theorem forB_map {α : Type} {g : α → Unit → Res (α × Unit)} {f : α → α} : ∀ {xs : List α}, (∀ x, x ∈ xs → g x () = .ok (f x, ())) → forB xs () g = .ok (xs.map f, ())
  | [], _ => rfl
  | x :: xs, h => by
    unfold forB
    rw [h x List.mem_cons_self, okb, forB_map fun y hy => h y (List.mem_cons_of_mem _ hy)]
    rfl
end TM

set_option Elab.async false
set_option linter.all false
set_option maxRecDepth 100000
/-! PL0: counting in lists; rows that fill a rectangle (a search for a way that augments a matching). -/
namespace PL
open PySem L2 TM
/-! ### counting -/
theorem sub_len {α : Type} [DecidableEq α] : ∀ {l m : List α}, l.Nodup → (∀ x, x ∈ l → x ∈ m) → l.length ≤ m.length
  | [], _, _, _ => Nat.zero_le _
  | x :: l, m, nd, h => by
    obtain ⟨h1, h2⟩ := List.nodup_cons.mp nd
    have hx := h x List.mem_cons_self
    have := sub_len (l := l) (m := m.erase x) h2 fun y hy => (List.mem_erase_of_ne (fun (e : y = x) => h1 (e ▸ hy))).mpr (h y (List.mem_cons_of_mem _ hy))
    rw [List.length_erase_of_mem hx] at this
    have := List.length_pos_of_mem hx
    rw [List.length_cons]
    omega
theorem sub_perm {α : Type} [DecidableEq α] : ∀ {l m : List α}, l.Nodup → (∀ x, x ∈ l → x ∈ m) → m.length ≤ l.length → l.Perm m
  | [], m, _, _, hl => by
    have : m = [] := List.eq_nil_of_length_eq_zero (by simpa using hl)
    rw [this]
  | x :: l, m, nd, h, hl => by
    obtain ⟨h1, h2⟩ := List.nodup_cons.mp nd
    have hx := h x List.mem_cons_self
    have := sub_perm (l := l) (m := m.erase x) h2 (fun y hy => (List.mem_erase_of_ne (fun (e : y = x) => h1 (e ▸ hy))).mpr (h y (List.mem_cons_of_mem _ hy))) (by
      rw [List.length_erase_of_mem hx]
      rw [List.length_cons] at hl
      omega)
    exact (List.Perm.cons x this).trans (List.perm_cons_erase hx).symm
theorem sum_le {α : Type} {f g : α → Nat} : ∀ {l : List α}, (∀ x, x ∈ l → f x ≤ g x) → (l.map f).sum ≤ (l.map g).sum
  | [], _ => Nat.le_refl _
  | x :: l, h => by
    have := sum_le (l := l) fun y hy => h y (List.mem_cons_of_mem _ hy)
    have := h x List.mem_cons_self
    simp only [List.map_cons, List.sum_cons]
    omega
theorem sum_const {α : Type} {c : Nat} : ∀ {l : List α}, (l.map fun _ => c).sum = l.length * c
  | [] => by simp
  | x :: l => by
    have := sum_const (c := c) (l := l)
    simp only [List.map_cons, List.sum_cons, List.length_cons, this, Nat.succ_mul]
    omega
theorem sum_zero {α : Type} : ∀ {l : List α}, (l.map fun _ => 0).sum = 0
  | [] => rfl
  | x :: l => by simpa using sum_zero (l := l)
theorem sum_add {α : Type} {f g : α → Nat} : ∀ {l : List α}, (l.map fun x => f x + g x).sum = (l.map f).sum + (l.map g).sum
  | [] => rfl
  | x :: l => by
    have := sum_add (f := f) (g := g) (l := l)
    simp only [List.map_cons, List.sum_cons, this]
    omega
theorem count_sum {α : Type} {p : α → Bool} : ∀ {l : List α}, (l.filter p).length = (l.map fun x => if p x = true then 1 else 0).sum
  | [] => rfl
  | x :: l => by
    have := count_sum (p := p) (l := l)
    rw [List.filter_cons, List.map_cons, List.sum_cons, ← this]
    by_cases h : p x = true
    · rw [if_pos h, if_pos h, List.length_cons]; omega
    · rw [if_neg h, if_neg h]; omega
/-- pairs counted by rows, by columns -/
theorem swap {α β : Type} {p : α → β → Bool} : ∀ {A : List α} {B : List β}, (A.map fun a => (B.filter fun b => p a b).length).sum = (B.map fun b => (A.filter fun a => p a b).length).sum
  | [], B => by simp [sum_zero]
  | a :: A, B => by
    have ih := swap (p := p) (A := A) (B := B)
    rw [List.map_cons, List.sum_cons, ih, count_sum, ← sum_add]
    congr 1
    refine List.map_congr_left fun b _ => ?_
    rw [List.filter_cons]
    by_cases h : p a b = true
    · rw [if_pos h, if_pos h, List.length_cons]; omega
    · rw [if_neg h, if_neg h]; omega
theorem filter_split {α : Type} {p : α → Bool} : ∀ {l : List α}, (l.filter p).length + (l.filter fun x => !p x).length = l.length
  | [] => rfl
  | x :: l => by
    have := filter_split (p := p) (l := l)
    rw [List.filter_cons, List.filter_cons]
    by_cases h : p x = true
    · simp [h] at *; omega
    · simp [h] at *; omega
theorem get_inj {α : Type} {l : List α} (nd : l.Nodup) {i j : Nat} {x : α} (h1 : l[i]? = some x) (h2 : l[j]? = some x) : i = j := by
  obtain ⟨a1, b1⟩ := List.getElem?_eq_some_iff.mp h1
  obtain ⟨a2, b2⟩ := List.getElem?_eq_some_iff.mp h2
  have p := List.pairwise_iff_getElem.mp nd
  rcases Nat.lt_trichotomy i j with z | z | z
  · exact (p i j a1 a2 z (b1.trans b2.symm)).elim
  · exact z
  · exact (p j i a2 a1 z (b2.trans b1.symm)).elim
/-! ### lists of -1 and more, by places -/
def gd (l : List Int) (t : Nat) : Int := l.getD t (-1)
theorem gd_set {l : List Int} {t u : Nat} {v : Int} (h : t < l.length) : gd (l.set t v) u = if u = t then v else gd l u := by
  unfold gd
  rw [List.getD_eq_getElem?_getD, List.getD_eq_getElem?_getD, List.getElem?_set]
  by_cases e : t = u
  · subst e; simp [h]
  · rw [if_neg e, if_neg (Ne.symm e)]
theorem gd_get {l : List Int} {t : Nat} (h : t < l.length) : l[t]? = some (gd l t) := by
  unfold gd
  rw [List.getD_eq_getElem?_getD, List.getElem?_eq_getElem h]
  rfl
/-! ### matchings -/
/-- each column below c is held by one thing, and each thing holds one column at most; al w t: the column w lacks the thing t -/
structure Mt (n c : Nat) (al : Nat → Nat → Bool) (h : List Int) : Prop where
  len : h.length = n
  rng : ∀ t, t < n → gd h t = -1 ∨ (0 ≤ gd h t ∧ gd h t < c ∧ al (gd h t).toNat t = true)
  inj : ∀ t u, t < n → u < n → gd h t = gd h u → gd h t ≠ -1 → t = u
  cov : ∀ w : Nat, w < c → ∃ t, t < n ∧ gd h t = (w : Int)
/-- the search from the column c: b the things found (by which column), W the columns, g the goal; the first k columns are done -/
structure Se (n c : Nat) (al : Nat → Nat → Bool) (h b : List Int) (W : List Int) (g : Int) (k : Nat) : Prop where
  len : b.length = n
  w0 : W[0]? = some (c : Int)
  wnd : W.Nodup
  wc : ∀ (i : Nat) (x : Int), W[i]? = some x → 0 < i → ∃ t, t < n ∧ gd b t ≠ -1 ∧ gd h t = x ∧ x ≠ -1
  bt : ∀ t, t < n → gd b t ≠ -1 → ∃ i : Nat, W[i]? = some (gd b t) ∧ 0 ≤ gd b t ∧ al (gd b t).toNat t = true ∧ (g = (t : Int) ∨ ∃ j : Nat, i < j ∧ W[j]? = some (gd h t) ∧ gd h t ≠ -1)
  gl : g = -1 ∨ ∃ t, t < n ∧ g = (t : Int) ∧ gd b t ≠ -1 ∧ gd h t = -1
  dn : g = -1 → ∀ i : Nat, i < k → ∀ x : Int, W[i]? = some x → ∀ t, t < n → al x.toNat t = true → gd b t ≠ -1
section
variable {n c : Nat} {al : Nat → Nat → Bool} {h b W : List Int} {g : Int} {k : Nat}
theorem Se.rngW (S : Se n c al h b W g k) (M : Mt n c al h) {i : Nat} {x : Int} (e : W[i]? = some x) : 0 ≤ x ∧ x ≤ c ∧ (0 < i → x < c) := by
  cases i with
  | zero =>
    rw [S.w0] at e; cases e
    exact ⟨by omega, by omega, fun h => absurd h (Nat.lt_irrefl 0)⟩
  | succ i =>
    obtain ⟨t, t1, t2, t3, t4⟩ := S.wc _ _ e (Nat.succ_pos i)
    rcases M.rng t t1 with r | ⟨r1, r2, _⟩
    · rw [t3] at r; exact (t4 r).elim
    · rw [t3] at r1 r2
      exact ⟨r1, by omega, fun _ => r2⟩
theorem Se.lenW (S : Se n c al h b W g k) (M : Mt n c al h) : W.length ≤ c + 1 := by
  have := sub_len (m := nats (c + 1)) S.wnd fun x hx => by
    obtain ⟨i, e⟩ := List.mem_iff_getElem?.mp hx
    have := S.rngW M e
    exact nats_mem.mpr ⟨this.1, by omega⟩
  rwa [nats_len] at this
/-- one more thing is looked at, from the column x -/
theorem Se.step (S : Se n c al h b W (-1) k) (M : Mt n c al h) {x : Int} {t : Nat} (hx : W[k]? = some x) (ht : t < n) (h1 : gd b t = -1) (h2 : al x.toNat t = true) :
    (gd h t = -1 → Se n c al h (b.set t x) W t k) ∧ (gd h t ≠ -1 → Se n c al h (b.set t x) (W ++ [gd h t]) (-1) k) := by
  have hx0 := S.rngW M hx
  have htl : t < b.length := by rw [S.len]; exact ht
  have hkl : k < W.length := (List.getElem?_eq_some_iff.mp hx).1
  have gb : ∀ u, gd (b.set t x) u = if u = t then x else gd b u := fun u => gd_set htl
  have ge : ∀ u, gd b u ≠ -1 → gd (b.set t x) u ≠ -1 := fun u hu => by
    rw [gb]; split
    · omega
    · exact hu
  constructor
  · intro hh
    refine ⟨by rw [List.length_set]; exact S.len, S.w0, S.wnd, fun i y e p => ?_, fun u hu hb => ?_, .inr ⟨t, ht, rfl, by rw [gb, if_pos rfl]; omega, hh⟩, fun e => by omega⟩
    · obtain ⟨u, u1, u2, u3, u4⟩ := S.wc i y e p
      exact ⟨u, u1, ge u u2, u3, u4⟩
    · rw [gb] at hb ⊢
      by_cases e : u = t
      · subst e
        rw [if_pos rfl]
        exact ⟨k, hx, hx0.1, h2, .inl rfl⟩
      · rw [if_neg e] at hb ⊢
        obtain ⟨i, i1, i2, i3, i4⟩ := S.bt u hu hb
        refine ⟨i, i1, i2, i3, ?_⟩
        rcases i4 with z | z
        · omega
        · exact .inr z
  · intro hh
    have hr := (M.rng t ht).resolve_left hh
    have hnew : gd h t ∉ W := fun m => by
      obtain ⟨i, e⟩ := List.mem_iff_getElem?.mp m
      cases i with
      | zero =>
        rw [S.w0] at e
        have := Option.some.inj e
        omega
      | succ i =>
        obtain ⟨u, u1, u2, u3, u4⟩ := S.wc _ _ e (Nat.succ_pos i)
        have := M.inj u t u1 ht u3 (by rw [u3]; exact hh)
        subst this
        exact u2 h1
    have old : ∀ {i : Nat} {y : Int}, W[i]? = some y → (W ++ [gd h t])[i]? = some y := fun {i y} e => by
      rw [List.getElem?_append_left (List.getElem?_eq_some_iff.mp e).1]; exact e
    have new : (W ++ [gd h t])[W.length]? = some (gd h t) := by simp
    refine ⟨by rw [List.length_set]; exact S.len, old S.w0, ?_, fun i y e p => ?_, fun u hu hb => ?_, .inl rfl, fun _ i hi y e u hu ha => ?_⟩
    · refine List.nodup_append.mpr ⟨S.wnd, by simp, fun a ha d hd e => ?_⟩
      rw [List.mem_singleton] at hd
      subst hd; subst e
      exact hnew ha
    · by_cases hi : i < W.length
      · rw [List.getElem?_append_left hi] at e
        obtain ⟨u, u1, u2, u3, u4⟩ := S.wc i y e p
        exact ⟨u, u1, ge u u2, u3, u4⟩
      · have hl := (List.getElem?_eq_some_iff.mp e).1
        rw [List.length_append, List.length_singleton] at hl
        have : i = W.length := by omega
        subst this
        rw [new] at e
        cases e
        exact ⟨t, ht, by rw [gb, if_pos rfl]; omega, rfl, hh⟩
    · rw [gb] at hb ⊢
      by_cases e : u = t
      · subst e
        rw [if_pos rfl]
        exact ⟨k, old hx, hx0.1, h2, .inr ⟨W.length, hkl, new, hh⟩⟩
      · rw [if_neg e] at hb ⊢
        obtain ⟨i, i1, i2, i3, i4⟩ := S.bt u hu hb
        refine ⟨i, old i1, i2, i3, ?_⟩
        rcases i4 with z | ⟨j, j1, j2, j3⟩
        · omega
        · exact .inr ⟨j, j1, old j2, j3⟩
    · have hiW : i < W.length := by omega
      rw [List.getElem?_append_left hiW] at e
      exact ge u (S.dn rfl i hi y e u hu ha)
/-- a search that has done all its columns without a goal: there is none such -/
theorem Se.none {r : Nat} (S : Se n c al h b W (-1) n) (M : Mt n c al h) (hc : c < n) (hr : r < n) (A1 : ∀ w, w < n → n - r ≤ ((List.range n).filter fun t => al w t).length) (A2 : ∀ t, t < n → ((List.range n).filter fun w => al w t).length ≤ n - r) : False := by
  have hlW := S.lenW M
  have inW : ∀ {x : Int}, x ∈ W → 0 ≤ x ∧ x < n := fun {x} hx => by
    obtain ⟨i, e⟩ := List.mem_iff_getElem?.mp hx
    have := S.rngW M e
    omega
  -- the things found
  let T := (List.range n).filter fun t => decide (gd b t ≠ -1)
  have memT : ∀ {t : Nat}, t ∈ T → t < n ∧ gd b t ≠ -1 := fun {t} m => by
    obtain ⟨m1, m2⟩ := List.mem_filter.mp m
    exact ⟨List.mem_range.mp m1, of_decide_eq_true m2⟩
  have hT : ∀ {t : Nat}, t ∈ T → ∃ j : Nat, 0 < j ∧ W[j]? = some (gd h t) ∧ gd h t ≠ -1 := fun {t} m => by
    obtain ⟨m1, m2⟩ := memT m
    obtain ⟨i, i1, i2, i3, i4⟩ := S.bt t m1 m2
    rcases i4 with z | ⟨j, j1, j2, j3⟩
    · omega
    · exact ⟨j, by omega, j2, j3⟩
  have hTW : T.length + 1 ≤ W.length := by
    have nd : ((T.map fun t => gd h t)).Nodup := by
      have ndT : T.Nodup := List.Pairwise.filter _ List.nodup_range
      refine List.pairwise_map.mpr ?_
      refine List.Pairwise.imp_of_mem ?_ ndT
      intro t u mt mu ne e
      obtain ⟨_, _, _, h3⟩ := hT mt
      exact ne (M.inj t u (memT mt).1 (memT mu).1 e h3)
    have sub := sub_len (m := W.tail) nd fun x hx => by
      obtain ⟨t, mt, rfl⟩ := List.mem_map.mp hx
      obtain ⟨j, j1, j2, _⟩ := hT mt
      cases W with
      | nil => simp at j2
      | cons w W =>
        cases j with
        | zero => omega
        | succ j => exact List.mem_iff_getElem?.mpr ⟨j, by simpa using j2⟩
    rw [List.length_map, List.length_tail] at sub
    have : 0 < W.length := (List.getElem?_eq_some_iff.mp S.w0).1
    omega
  -- counted by columns, by things
  have e := swap (p := fun (x : Int) (t : Nat) => al x.toNat t) (A := W) (B := T)
  have lo : W.length * (n - r) ≤ (W.map fun x => (T.filter fun t => al x.toNat t).length).sum := by
    rw [← sum_const]
    refine sum_le fun x hx => ?_
    have hx' := inW hx
    refine Nat.le_trans (A1 x.toNat (by omega)) (sub_len (List.Pairwise.filter _ List.nodup_range) fun t ht => ?_)
    obtain ⟨t1, t2⟩ := List.mem_filter.mp ht
    obtain ⟨i, ei⟩ := List.mem_iff_getElem?.mp hx
    have hi : i < n := by
      have := (List.getElem?_eq_some_iff.mp ei).1
      omega
    refine List.mem_filter.mpr ⟨List.mem_filter.mpr ⟨t1, decide_eq_true (S.dn rfl i hi x ei t (List.mem_range.mp t1) t2)⟩, t2⟩
  have hi : (T.map fun t => (W.filter fun x => al x.toNat t).length).sum ≤ T.length * (n - r) := by
    rw [← sum_const]
    refine sum_le fun t ht => ?_
    refine Nat.le_trans ?_ (A2 t (memT ht).1)
    have nd : ((W.filter fun x => al x.toNat t).map Int.toNat).Nodup := by
      refine List.pairwise_map.mpr ?_
      refine List.Pairwise.imp_of_mem ?_ (List.Pairwise.filter _ S.wnd)
      intro x y mx my ne e
      have h1 := inW (List.mem_filter.mp mx).1
      have h2 := inW (List.mem_filter.mp my).1
      exact ne (by omega)
    have := sub_len (m := (List.range n).filter fun w => al w t) nd fun w hw => by
      obtain ⟨x, mx, rfl⟩ := List.mem_map.mp hw
      obtain ⟨m1, m2⟩ := List.mem_filter.mp mx
      have := inW m1
      exact List.mem_filter.mpr ⟨List.mem_range.mpr (by omega), m2⟩
    rwa [List.length_map] at this
  rw [e] at lo
  have h1 : W.length * (n - r) ≤ T.length * (n - r) := Nat.le_trans lo hi
  have h2 := Nat.le_of_mul_le_mul_right h1 (by omega)
  omega
end
/-! ### the way back -/
/-- along the way: the thing t0 waits for its column (by b); the other things are matched -/
structure Au (n c : Nat) (al : Nat → Nat → Bool) (h b W h' : List Int) (t0 i : Nat) : Prop where
  len : h'.length = n
  t0n : t0 < n
  bt0 : gd b t0 ≠ -1
  wi : W[i]? = some (gd b t0)
  rng : ∀ t, t < n → t ≠ t0 → gd h' t = -1 ∨ (0 ≤ gd h' t ∧ gd h' t < c ∧ al (gd h' t).toNat t = true)
  inj : ∀ t u, t < n → u < n → t ≠ t0 → u ≠ t0 → gd h' t = gd h' u → gd h' t ≠ -1 → t = u
  cov : ∀ w : Nat, w < c → ∃ t, t < n ∧ t ≠ t0 ∧ gd h' t = (w : Int)
  keep : ∀ t, t < n → ∀ j : Nat, j ≤ i → W[j]? = some (gd h' t) → gd h' t = gd h t
section
variable {n c : Nat} {al : Nat → Nat → Bool} {h b W h' : List Int} {g : Int} {k t0 i : Nat}
theorem Au.start (S : Se n c al h b W g k) (M : Mt n c al h) {t0 : Nat} (e : g = (t0 : Int)) : ∃ i, i < c + 1 ∧ Au n c al h b W h t0 i := by
  obtain ⟨t, t1, t2, t3, t4⟩ := S.gl.resolve_left (by omega)
  have : t = t0 := by omega
  subst this
  obtain ⟨i, i1, _⟩ := S.bt t t1 t3
  have := S.lenW M
  have := (List.getElem?_eq_some_iff.mp i1).1
  refine ⟨i, by omega, M.len, t1, t3, i1, fun u hu _ => M.rng u hu, fun u v hu hv _ _ e => M.inj u v hu hv e, fun w hw => ?_, fun _ _ _ _ _ => rfl⟩
  obtain ⟨u, u1, u2⟩ := M.cov w hw
  exact ⟨u, u1, fun e => by rw [e, t4] at u2; omega, u2⟩
/-- the last step -/
theorem Au.done (A : Au n c al h b W h' t0 i) (S : Se n c al h b W g k) (e : gd b t0 = (c : Int)) : Mt n (c + 1) al (h'.set t0 (gd b t0)) := by
  have hl : t0 < h'.length := by rw [A.len]; exact A.t0n
  have gs : ∀ u, gd (h'.set t0 (gd b t0)) u = if u = t0 then gd b t0 else gd h' u := fun u => gd_set hl
  obtain ⟨j, j1, j2, j3, _⟩ := S.bt t0 A.t0n A.bt0
  refine ⟨by rw [List.length_set]; exact A.len, fun t ht => ?_, fun t u ht hu e1 e2 => ?_, fun w hw => ?_⟩
  · rw [gs]
    by_cases q : t = t0
    · subst q
      rw [if_pos rfl]
      exact .inr ⟨j2, by omega, j3⟩
    · rw [if_neg q]
      rcases A.rng t ht q with z | ⟨z1, z2, z3⟩
      · exact .inl z
      · exact .inr ⟨z1, by omega, z3⟩
  · rw [gs, gs] at e1
    rw [gs] at e2
    by_cases q : t = t0
    · by_cases q2 : u = t0
      · rw [q, q2]
      · rw [if_pos q, if_neg q2] at e1
        rcases A.rng u hu q2 with z | ⟨z1, z2, z3⟩
        · rw [if_pos q] at e2; omega
        · omega
    · rw [if_neg q] at e1 e2
      by_cases q2 : u = t0
      · rw [if_pos q2] at e1
        rcases A.rng t ht q with z | ⟨z1, z2, z3⟩
        · omega
        · omega
      · rw [if_neg q2] at e1
        exact A.inj t u ht hu q q2 e1 e2
  · by_cases q : w = c
    · exact ⟨t0, A.t0n, by rw [gs, if_pos rfl, e, q]⟩
    · obtain ⟨t, t1, t2, t3⟩ := A.cov w (by omega)
      exact ⟨t, t1, by rw [gs, if_neg t2]; exact t3⟩
/-- a step on -/
theorem Au.next (A : Au n c al h b W h' t0 i) (S : Se n c al h b W g k) (M : Mt n c al h) (ne : gd b t0 ≠ (c : Int)) :
    ∃ t i2, i2 < i ∧ t < n ∧ gd h' t = gd b t0 ∧ (∀ u, u < t → gd h' u ≠ gd b t0) ∧ Au n c al h b W (h'.set t0 (gd b t0)) t i2 := by
  have hl : t0 < h'.length := by rw [A.len]; exact A.t0n
  have gs : ∀ u, gd (h'.set t0 (gd b t0)) u = if u = t0 then gd b t0 else gd h' u := fun u => gd_set hl
  have hi : 0 < i := by
    cases i with
    | zero => have := A.wi; rw [S.w0] at this; exact (ne (Option.some.inj this).symm).elim
    | succ i => exact Nat.succ_pos i
  have hW := S.rngW M A.wi
  have hlt := hW.2.2 hi
  obtain ⟨t, t1, t2, t3⟩ := A.cov (gd b t0).toNat (by omega)
  have t3 : gd h' t = gd b t0 := by rw [t3]; omega
  have kt := A.keep t t1 i (Nat.le_refl _) (by rw [t3]; exact A.wi)
  have ht : gd h t = gd b t0 := by rw [← kt, t3]
  have hneg : gd b t0 ≠ -1 := A.bt0
  -- t0 itself does not hold it
  have h0 : gd h' t0 ≠ gd b t0 := fun e => by
    have k0 := A.keep t0 A.t0n i (Nat.le_refl _) (by rw [e]; exact A.wi)
    obtain ⟨j, j1, j2, j3, j4⟩ := S.bt t0 A.t0n A.bt0
    have ji : j = i := get_inj S.wnd j1 A.wi
    rcases j4 with z | ⟨m, m1, m2, m3⟩
    · obtain ⟨v, v1, v2, v3, v4⟩ := S.gl.resolve_left (by omega)
      have : v = t0 := by omega
      subst this
      omega
    · have : m = i := get_inj S.wnd m2 (by rw [← k0, e]; exact A.wi)
      omega
  obtain ⟨q, q1, q2, q3⟩ := S.wc i _ A.wi hi
  have hqt : q = t := M.inj q t q1 t1 (by rw [q3.1, ht]) (by rw [q3.1]; exact hneg)
  subst hqt
  obtain ⟨i2, i21, i22, i23, i24⟩ := S.bt q q1 q2
  have hi2 : i2 < i := by
    rcases i24 with z | ⟨m, m1, m2, m3⟩
    · obtain ⟨v, v1, v2, v3, v4⟩ := S.gl.resolve_left (by omega)
      have : v = q := by omega
      subst this
      omega
    · have : m = i := get_inj S.wnd m2 (by rw [ht]; exact A.wi)
      omega
  refine ⟨q, i2, hi2, t1, t3, fun u hu e => ?_, ?_⟩
  · have hu0 : u ≠ t0 := fun z => h0 (z ▸ e)
    have := A.inj u q (Nat.lt_trans hu t1) t1 hu0 t2 (by rw [e, t3]) (by rw [e]; exact hneg)
    omega
  · obtain ⟨j, j1, j2, j3, _⟩ := S.bt t0 A.t0n A.bt0
    refine ⟨by rw [List.length_set]; exact A.len, t1, q2, i21, fun u hu huq => ?_, fun u v hu hv huq hvq e1 e2 => ?_, fun w hw => ?_, fun u hu m hm e => ?_⟩
    · rw [gs]
      by_cases z : u = t0
      · subst z
        rw [if_pos rfl]
        exact .inr ⟨j2, hlt, j3⟩
      · rw [if_neg z]; exact A.rng u hu z
    · rw [gs, gs] at e1
      rw [gs] at e2
      by_cases z : u = t0
      · by_cases z2 : v = t0
        · rw [z, z2]
        · rw [if_pos z, if_neg z2] at e1
          exact (hvq (A.inj v q hv t1 z2 t2 (by rw [← e1, t3]) (by rw [← e1]; exact hneg))).elim
      · rw [if_neg z] at e1 e2
        by_cases z2 : v = t0
        · rw [if_pos z2] at e1
          exact (huq (A.inj u q hu t1 z t2 (by rw [e1, t3]) e2)).elim
        · rw [if_neg z2] at e1
          exact A.inj u v hu hv z z2 e1 e2
    · obtain ⟨u, u1, u2, u3⟩ := A.cov w hw
      by_cases z : u = q
      · exact ⟨t0, A.t0n, Ne.symm t2, by rw [gs, if_pos rfl, ← t3, ← z]; exact u3⟩
      · exact ⟨u, u1, z, by rw [gs, if_neg u2]; exact u3⟩
    · rw [gs] at e ⊢
      by_cases z : u = t0
      · rw [if_pos z] at e
        have := get_inj S.wnd e A.wi
        omega
      · rw [if_neg z] at e ⊢
        exact A.keep u hu m (by omega) e
end
end PL

set_option Elab.async false
set_option linter.all false
set_option maxRecDepth 100000
set_option maxHeartbeats 4000000
noncomputable section
namespace K00
open PySem L2 TM
def topS (i : Nat) : Stmt := PySem.Challenge.pw_mergesofmany_k00_any_two_tell_the_third.main.body.getD i (.Pass ⟨0, 0, 0, 0⟩)
structure Ad where
  Fault_ : Addr
  BadMerge_ : Addr
  BadWeb_ : Addr
  BadNet_ : Addr
  BadGroup_ : Addr
  Merge_ : Addr
structure Gl (mg : Str → Option Value) : Prop where
  MOST_ORDER_ : ∃ t, mg "MOST_ORDER" = some (.int 8 t)
  abs_ : mg "abs" = none
  bool_ : mg "bool" = none
  enumerate_ : mg "enumerate" = none
  int_ : mg "int" = none
  isinstance_ : mg "isinstance" = none
  len_ : mg "len" = none
  list_ : mg "list" = none
  range_ : mg "range" = none
  sorted_ : mg "sorted" = none
  tuple_ : mg "tuple" = none
structure Cf (K : Fg) (mg : Str → Option Value) (cA : Ad) : Prop where
  mg_Fault : mg "Fault" = some (.ref cA.Fault_)
  mg_BadMerge : mg "BadMerge" = some (.ref cA.BadMerge_)
  mg_BadWeb : mg "BadWeb" = some (.ref cA.BadWeb_)
  mg_BadNet : mg "BadNet" = some (.ref cA.BadNet_)
  mg_BadGroup : mg "BadGroup" = some (.ref cA.BadGroup_)
  mg_Merge : mg "Merge" = some (.ref cA.Merge_)
  x_BadMerge : ExG K mg "BadMerge"
  exM_BadMerge_BadGroup : ExMG K mg cA.BadMerge_ "BadGroup" false
  exM_BadMerge_BadMerge : ExMG K mg cA.BadMerge_ "BadMerge" true
  exM_BadMerge_BadNet : ExMG K mg cA.BadMerge_ "BadNet" false
  exM_BadMerge_BadWeb : ExMG K mg cA.BadMerge_ "BadWeb" false
  exM_BadMerge_Fault : ExMG K mg cA.BadMerge_ "Fault" false
  exM_Fault_BadGroup : ExMG K mg cA.Fault_ "BadGroup" true
  exM_Fault_BadMerge : ExMG K mg cA.Fault_ "BadMerge" true
  exM_Fault_BadNet : ExMG K mg cA.Fault_ "BadNet" true
  exM_Fault_BadWeb : ExMG K mg cA.Fault_ "BadWeb" true
  exM_Fault_Fault : ExMG K mg cA.Fault_ "Fault" true
  cl_Merge : Cls K cA.Merge_
  na_Merge__firsts : NoAttr K cA.Merge_ "_firsts"
  na_Merge__seconds : NoAttr K cA.Merge_ "_seconds"
  na_Merge_order : NoAttr K cA.Merge_ "order"
  na_Merge_rows : NoAttr K cA.Merge_ "rows"
  ins_Merge : InsC K cA.Merge_
  isE_BadMerge_BadGroup : IsEG K mg "BadMerge" "BadGroup" false
  isE_BadMerge_BadNet : IsEG K mg "BadMerge" "BadNet" false
  isE_BadMerge_BadWeb : IsEG K mg "BadMerge" "BadWeb" false
  isE_BadMerge_Fault : IsEG K mg "BadMerge" "Fault" true
  isE_BadMerge_ValueError : IsEG K mg "BadMerge" "ValueError" true
  kit_Merge_Merge : PySem.W.kitOne K (.ref cA.Merge_) (.ref cA.Merge_) = some true

abbrev S_numbers : Stmt := topS 13
abbrev N_numbers : List Str := ["script", "many", "mixed", "state", "k", "cell", "free", "rest"]
theorem sc_numbers : FnScope N_numbers ["script", "many"] (defScope S_numbers) := ⟨rfl, rfl, rfl, by decide +kernel, rfl, by decide +kernel, by decide +kernel⟩
theorem nm_numbers : nmOk N_numbers = true := by decide +kernel
theorem nd_numbers : N_numbers.Nodup := sc_numbers.nd
abbrev A_numbers := (List Int) × Int × Unit
abbrev B_numbers := (List Int)
abbrev gp_numbers (cA : Ad) (pn : Nat → Addr) (a : A_numbers) : List Slot := [sv tScr a.1, sv tInt a.2.1]
abbrev gx_numbers (cA : Ad) (pn : Nat → Addr) (b : B_numbers) : List Slot := [none, none, none, none, none, none, none, none]
def d_numbers : { m : A_numbers → Res B_numbers // ∀ (P : Program) (w : World) (K : Fg) (mg : Str → Option Value) (base : Heap) (cA : Ad) (hG : Gl mg) (hX : Cf K mg cA) (pn : Nat → Addr) (a : A_numbers),
    BJ (bdOf P w K mg base 0 N_numbers S_numbers) (gp_numbers cA pn a ++ List.replicate 6 none) (defBody S_numbers) (m a) (fun b => .rt (gx_numbers cA pn b) (kL (kVal tInt)) b) } :=
  ⟨_, fun P w K mg base cA hG hX  pn a =>
    (bj_set 2 nd_numbers rfl (Or.inl rfl) (ej_ownI (κ := (kL (kVal tInt))) (oj_lst (es_nil (τ := tInt)) (by decide)) (imm_kLP (imm_kVal imm_int))) (fun (v1 : (List Int)) => (bj_set 3 nd_numbers rfl (Or.inl rfl) (ej_imm (τ := tInt) (pj_add pj_int (pj_lenScr rfl hG.len_ (pj_vv tScr 0 a.1 nm_numbers rfl (Or.inl rfl) rfl))) imm_int) (fun (v2 : Int) => (bj_for (g := fun (s4 : (List Int) × Int) => [sv tScr a.1, sv tInt a.2.1, some ⟨(kL (kVal tInt)), s4.1⟩, sv tInt s4.2, none, none, none, none]) rfl (fj_rng1 4 nd_numbers rfl (Or.inl rfl) rfl hG.range_ (pj_vv tInt 1 a.2.1 nm_numbers rfl (Or.inl rfl) rfl)) ((v1, v2)) (by exact .keep (.keep (.keep (.keep (.keep (.keep (.keep (.keep .nil)))))))) (fun x3 s4 => (bj_set 5 nd_numbers rfl (Or.inl rfl) (ej_imm (τ := tInt) pj_int imm_int) (fun (v6 : Int) => (bj_ifJ (g := fun (s9 : Int) => [sv tScr a.1, sv tInt a.2.1, some ⟨(kL (kVal tInt)), s4.1⟩, sv tInt s4.2, sv tInt x3, sv tInt s9, none, none]) (etj_of (tj_icmp .gt (pj_lenScr rfl hG.len_ (pj_vv tScr 0 a.1 nm_numbers rfl (Or.inl rfl) rfl)) pj_int)) (fun (b7 : Bool) => (bj_set 5 nd_numbers rfl (Or.inl rfl) (ej_imm (τ := tInt) (pj_int1 rfl hG.int_ (pj_ixScr (fun _ _ => rfl) (pj_vv tScr 0 a.1 nm_numbers rfl (Or.inl rfl) rfl) (pj_mod (pj_int1 rfl hG.int_ (pj_vv tInt 4 x3 nm_numbers rfl (Or.inl rfl) rfl)) (pj_lenScr rfl hG.len_ (pj_vv tScr 0 a.1 nm_numbers rfl (Or.inl rfl) rfl))))) imm_int) (fun (v8 : Int) => (bj_nil (G' := [sv tScr a.1, sv tInt a.2.1, some ⟨(kL (kVal tInt)), s4.1⟩, sv tInt s4.2, sv tInt x3, sv tInt v8, none, none]) (a := v8) (by exact .keep (.keep (.keep (.keep (.keep (.keep (.keep (.keep .nil)))))))) rfl)))) (fun (b7 : Bool) => (bj_nil (G' := [sv tScr a.1, sv tInt a.2.1, some ⟨(kL (kVal tInt)), s4.1⟩, sv tInt s4.2, sv tInt x3, sv tInt v6, none, none]) (a := v6) (by exact .keep (.keep (.keep (.keep (.keep (.keep (.keep (.keep .nil)))))))) rfl)) (fun s9 => (bj_set 3 nd_numbers rfl (Or.inl rfl) (ej_imm (τ := tInt) (pj_mod (pj_int1 rfl hG.int_ (pj_add (pj_add (pj_add (pj_mul (pj_vv tInt 3 s4.2 nm_numbers rfl (Or.inl rfl) rfl) pj_int) (pj_vv tInt 5 s9 nm_numbers rfl (Or.inl rfl) rfl)) (pj_mul pj_int (pj_vv tInt 4 x3 nm_numbers rfl (Or.inl rfl) rfl))) pj_int)) pj_int) imm_int) (fun (v10 : Int) => (bj_expr (ej_append (κ := (kVal tInt)) (xs := fun (r11 : Int) => s4.1) 2 rfl (Or.inl rfl) rfl (ej_imm (τ := tInt) (pj_div (pj_int1 rfl hG.int_ (pj_vv tInt 3 v10 nm_numbers rfl (Or.inl rfl) rfl)) pj_int) imm_int) (fun _ => rfl)) (fun (v12 : ((Int) × (List Int))) => (bj_nil (G' := [sv tScr a.1, sv tInt a.2.1, some ⟨(kL (kVal tInt)), v12.2⟩, sv tInt v10, none, none, none, none]) (a := (v12.2, v10)) (by exact .keep (.keep (.keep (.keep (.drop (.drop (.keep (.keep .nil)))))))) rfl)))))))))) (fun s5 => (bj_wk (G' := [sv tScr a.1, sv tInt a.2.1, sv (tList tInt) s5.1, sv tInt s5.2, none, none, none, none]) (by exact .keep (.keep (.let (.keep (.keep (.keep (.keep (.keep .nil)))))))) (bj_set 6 nd_numbers rfl (Or.inr rfl) (ej_ownI (κ := (kL (kVal tInt))) (oj_lst (es_nil (τ := tInt)) (by decide)) (imm_kLP (imm_kVal imm_int))) (fun (v13 : (List Int)) => (bj_for (g := fun (s15 : (List Int)) => [sv tScr a.1, sv tInt a.2.1, sv (tList tInt) s5.1, sv tInt s5.2, none, none, some ⟨(kL (kVal tInt)), s15⟩, none]) rfl (fj_scr 5 nd_numbers rfl (Or.inl rfl) (pj_vv tScr 0 a.1 nm_numbers rfl (Or.inl rfl) rfl)) v13 (by exact .keep (.keep (.keep (.keep (.keep (.keep (.keep (.keep .nil)))))))) (fun x14 s15 => (bj_set 7 nd_numbers rfl (Or.inl rfl) (ej_imm (τ := tInt) (pj_abs rfl hG.abs_ (pj_int1 rfl hG.int_ (pj_vv tInt 5 x14 nm_numbers rfl (Or.inl rfl) rfl))) imm_int) (fun (v17 : Int) => (bj_ifJ (g := fun (s27 : (List Int) × Int) => [sv tScr a.1, sv tInt a.2.1, sv (tList tInt) s5.1, sv tInt s5.2, none, sv tInt x14, some ⟨(kL (kVal tInt)), s27.1⟩, sv tInt s27.2]) (etj_of (tj_icmp .ge (pj_vv tInt 7 v17 nm_numbers rfl (Or.inl rfl) rfl) (pj_pow pj_int pj_int))) (fun (b18 : Bool) => (bj_for (g := fun (s20 : (List Int) × Int) => [sv tScr a.1, sv tInt a.2.1, sv (tList tInt) s5.1, sv tInt s5.2, none, sv tInt x14, some ⟨(kL (kVal tInt)), s20.1⟩, sv tInt s20.2]) rfl (fj_rng1 4 nd_numbers rfl (Or.inl rfl) rfl hG.range_ pj_int) ((s15, v17)) (by exact .keep (.keep (.keep (.keep (.keep (.keep (.keep (.keep .nil)))))))) (fun x19 s20 => (bj_ifJ (g := fun (s26 : (List Int) × Int) => [sv tScr a.1, sv tInt a.2.1, sv (tList tInt) s5.1, sv tInt s5.2, sv tInt x19, sv tInt x14, some ⟨(kL (kVal tInt)), s26.1⟩, sv tInt s26.2]) (etj_of (tj_icmp .gt (pj_vv tInt 7 s20.2 nm_numbers rfl (Or.inl rfl) rfl) pj_int)) (fun (b22 : Bool) => (bj_expr (ej_append (κ := (kVal tInt)) (xs := fun (r23 : Int) => s20.1) 6 rfl (Or.inr (Or.inl rfl)) rfl (ej_imm (τ := tInt) (pj_mod (pj_int1 rfl hG.int_ (pj_vv tInt 7 s20.2 nm_numbers rfl (Or.inl rfl) rfl)) pj_int) imm_int) (fun _ => rfl)) (fun (v24 : ((Int) × (List Int))) => (bj_set 7 nd_numbers rfl (Or.inl rfl) (ej_imm (τ := tInt) (pj_div (pj_vv tInt 7 s20.2 nm_numbers rfl (Or.inl rfl) rfl) pj_int) imm_int) (fun (v25 : Int) => (bj_nil (G' := [sv tScr a.1, sv tInt a.2.1, sv (tList tInt) s5.1, sv tInt s5.2, sv tInt x19, sv tInt x14, some ⟨(kL (kVal tInt)), v24.2⟩, sv tInt v25]) (a := (v24.2, v25)) (by exact .keep (.keep (.keep (.keep (.keep (.keep (.keep (.keep .nil)))))))) rfl)))))) (fun (b22 : Bool) => (bj_nil (G' := [sv tScr a.1, sv tInt a.2.1, sv (tList tInt) s5.1, sv tInt s5.2, sv tInt x19, sv tInt x14, some ⟨(kL (kVal tInt)), s20.1⟩, sv tInt s20.2]) (a := (s20.1, s20.2)) (by exact .keep (.keep (.keep (.keep (.keep (.keep (.keep (.keep .nil)))))))) rfl)) (fun s26 => (bj_nil (G' := [sv tScr a.1, sv tInt a.2.1, sv (tList tInt) s5.1, sv tInt s5.2, none, sv tInt x14, some ⟨(kL (kVal tInt)), s26.1⟩, sv tInt s26.2]) (a := (s26.1, s26.2)) (by exact .keep (.keep (.keep (.keep (.drop (.keep (.keep (.keep .nil)))))))) rfl)))) (fun s21 => (bj_nil (G' := [sv tScr a.1, sv tInt a.2.1, sv (tList tInt) s5.1, sv tInt s5.2, none, sv tInt x14, some ⟨(kL (kVal tInt)), s21.1⟩, sv tInt s21.2]) (a := (s21.1, s21.2)) (by exact .keep (.keep (.keep (.keep (.keep (.keep (.keep (.keep .nil)))))))) rfl)))) (fun (b18 : Bool) => (bj_nil (G' := [sv tScr a.1, sv tInt a.2.1, sv (tList tInt) s5.1, sv tInt s5.2, none, sv tInt x14, some ⟨(kL (kVal tInt)), s15⟩, sv tInt v17]) (a := (s15, v17)) (by exact .keep (.keep (.keep (.keep (.keep (.keep (.keep (.keep .nil)))))))) rfl)) (fun s27 => (bj_nil (G' := [sv tScr a.1, sv tInt a.2.1, sv (tList tInt) s5.1, sv tInt s5.2, none, none, some ⟨(kL (kVal tInt)), s27.1⟩, none]) (a := s27.1) (by exact .keep (.keep (.keep (.keep (.keep (.drop (.keep (.drop .nil)))))))) rfl)))))) (fun s16 => (bj_wk (G' := [sv tScr a.1, sv tInt a.2.1, sv (tList tInt) s5.1, sv tInt s5.2, none, none, sv (tList tInt) s16, none]) (by exact .keep (.keep (.keep (.keep (.keep (.keep (.let (.keep .nil)))))))) (bj_rt (fun (v29 : (List Int)) => gx_numbers cA pn v29) (fun (v29 : (List Int)) => v29) (ej_ownI (κ := (kL (kVal tInt))) (oj_cat (τ := tInt) (pj_vv (tList tInt) 2 s5.1 nm_numbers rfl (Or.inl rfl) rfl) (pj_of_oj (κ := (kL (kVal tInt))) (oj_lc nd_numbers rfl (lcj (κ := (kVal tInt)) [("k", 4)] rfl (pij_rng1 4 nd_numbers rfl (Or.inl rfl) (Or.inr rfl) rfl hG.range_ (pj_len (sqList tInt) rfl hG.len_ (pj_vv (tList tInt) 6 s16 nm_numbers rfl (Or.inr (Or.inl rfl)) rfl))) (by decide) (fun x28 => tsj_nil) (fun x28 => (oj_of_pj (pj_ixL (τ := tInt) (fun _ _ => rfl) (pj_vv (tList tInt) 6 s16 nm_numbers rfl (Or.inr (Or.inl rfl)) rfl) (pj_sub (pj_sub (pj_len (sqList tInt) rfl hG.len_ (pj_vv (tList tInt) 6 s16 nm_numbers rfl (Or.inr (Or.inl rfl)) rfl)) pj_int) (pj_vv tInt 4 x28 nm_numbers rfl (Or.inl rfl) rfl))))))))) (imm_kLP (imm_kVal imm_int))) (fun _ => rfl) (by exact fun _ => .drop (.drop (.drop (.drop (.keep (.keep (.drop (.keep .nil)))))))))))))))))))))⟩
abbrev m_numbers : A_numbers → Res B_numbers := d_numbers.1
abbrev sp_numbers (K : Fg) (mg : Str → Option Value) (cA : Ad) : Sp := SpOf K mg 2 (gp_numbers cA) m_numbers (gx_numbers cA) (kL (kVal tInt)) (fun b => b)

abbrev S_take : Stmt := topS 14
abbrev N_take : List Str := ["numbers", "many"]
theorem sc_take : FnScope N_take ["numbers", "many"] (defScope S_take) := ⟨rfl, rfl, rfl, by decide +kernel, rfl, by decide +kernel, by decide +kernel⟩
theorem nm_take : nmOk N_take = true := by decide +kernel
theorem nd_take : N_take.Nodup := sc_take.nd
abbrev A_take := (List Int) × Int × Unit
abbrev B_take := (List Int) × Int
abbrev gp_take (cA : Ad) (pn : Nat → Addr) (a : A_take) : List Slot := [some ⟨(kLP (fun q => q = pn 0) (kVal tInt)), a.1⟩, sv tInt a.2.1]
abbrev gx_take (cA : Ad) (pn : Nat → Addr) (b : B_take) : List Slot := [some ⟨(kLP (fun q => q = pn 0) (kVal tInt)), b.1⟩, none]
def d_take : { m : A_take → Res B_take // ∀ (P : Program) (w : World) (K : Fg) (mg : Str → Option Value) (base : Heap) (cA : Ad) (hG : Gl mg) (hX : Cf K mg cA) (pn : Nat → Addr) (a : A_take),
    BJ (bdOf P w K mg base 0 N_take S_take) (gp_take cA pn a ++ List.replicate 0 none) (defBody S_take) (m a) (fun b => .rt (gx_take cA pn b) (kVal tInt) b.2) } :=
  ⟨_, fun P w K mg base cA hG hX  pn a =>
    (bj_ifT (finz := (fun b => .rt (gx_take cA pn b) (kVal tInt) b.2)) (inj := (fun z => z)) (etj_of (tj_eqs .eq scaInt (pj_len (sqList tInt) rfl hG.len_ (pj_vl (kVal tInt) 0 a.1 nm_take rfl (Or.inl rfl) rfl)) pj_int)) (fun (b1 : Bool) => (bj_rt (fun (v2 : Int) => gx_take cA pn ((a.1, v2))) (fun (v2 : Int) => (a.1, v2)) (ej_imm (τ := tInt) pj_int imm_int) (fun _ => rfl) (by exact fun _ => .keep (.drop .nil)))) (fun _ => rfl) (fun _ => rfl) (fun (b1 : Bool) => (bj_rt (fun (v5 : ((((List Int) × Int)) × (Int) × Int)) => gx_take cA pn ((v5.1.1, v5.2.2))) (fun (v5 : ((((List Int) × Int)) × (Int) × Int)) => (v5.1.1, v5.2.2)) (ej_op .mod (x := fun (r3 : ((List Int) × Int)) => r3.2) (y := fun (r3 : ((List Int) × Int)) (r4 : Int) => r4) (ej_int1 rfl hG.int_ (ej_pop (κ := (kVal tInt)) 0 rfl (Or.inl rfl) rfl)) (fun (r3 : ((List Int) × Int)) => (ej_imm (τ := tInt) (pj_vv tInt 1 a.2.1 nm_take rfl (Or.inl rfl) rfl) imm_int))) (fun _ => rfl) (by exact fun _ => .keep (.drop .nil)))))⟩
abbrev m_take : A_take → Res B_take := d_take.1
abbrev sp_take (K : Fg) (mg : Str → Option Value) (cA : Ad) : Sp := SpOf K mg 2 (gp_take cA) m_take (gx_take cA) (kVal tInt) (fun b => b.2)

abbrev S_row : Stmt := topS 16
abbrev N_row : List Str := ["numbers", "order", "rows", "held", "column", "wanted", "before", "waiting", "goal", "k", "gone", "step", "thing", "at", "onward", "row"]
theorem sc_row : FnScope N_row ["numbers", "order", "rows"] (defScope S_row) := ⟨rfl, rfl, rfl, by decide +kernel, rfl, by decide +kernel, by decide +kernel⟩
theorem nm_row : nmOk N_row = true := by decide +kernel
theorem nd_row : N_row.Nodup := sc_row.nd
abbrev A_row := (List Int) × Int × (List (List Int)) × Unit
abbrev B_row := (List Int) × (List Int)
abbrev gp_row (cA : Ad) (pn : Nat → Addr) (a : A_row) : List Slot := [some ⟨(kLP (fun q => q = pn 0) (kVal tInt)), a.1⟩, sv tInt a.2.1, sv (tList (tList tInt)) a.2.2.1]
abbrev gx_row (cA : Ad) (pn : Nat → Addr) (b : B_row) : List Slot := [some ⟨(kLP (fun q => q = pn 0) (kVal tInt)), b.1⟩, none, none, none, none, none, none, none, none, none, none, none, none, none, none, none]
def d_row : { m : A_row → Res B_row // ∀ (P : Program) (w : World) (K : Fg) (mg : Str → Option Value) (base : Heap) (cA : Ad) (hG : Gl mg) (hX : Cf K mg cA) (h_take : FnG P w K mg base 1 "_law_take" ["numbers", "many"] (sp_take K mg cA)) (pn : Nat → Addr) (a : A_row),
    BJ (bdOf P w K mg base 1 N_row S_row) (gp_row cA pn a ++ List.replicate 13 none) (defBody S_row) (m a) (fun b => .rt (gx_row cA pn b) (kL (kVal tInt)) b.2) } :=
  ⟨_, fun P w K mg base cA hG hX h_take pn a =>
    (bj_setCell 3 nd_row rfl rfl (ej_ownI (κ := (kL (kVal tInt))) (oj_lc nd_row rfl (lcj (κ := (kVal tInt)) [("k", 9)] rfl (pij_rng1 9 nd_row rfl (Or.inl rfl) (Or.inr rfl) rfl hG.range_ (pj_vv tInt 1 a.2.1 nm_row rfl (Or.inl rfl) rfl)) (by decide) (fun x1 => tsj_nil) (fun x1 => (oj_of_pj (pj_neg pj_int))))) (imm_kLP (imm_kVal imm_int))) (fun (v2 : (List Int)) => (bj_for (g := fun (s4 : (List Int) × (List Int)) => [some ⟨(kLP (fun q => q = pn 0) (kVal tInt)), s4.1⟩, sv tInt a.2.1, sv (tList (tList tInt)) a.2.2.1, some ⟨(kL (kVal tInt)), s4.2⟩, none, none, none, none, none, none, none, none, none, none, none, none]) rfl (fj_rng1 4 nd_row rfl (Or.inl rfl) rfl hG.range_ (pj_vv tInt 1 a.2.1 nm_row rfl (Or.inl rfl) rfl)) ((a.1, v2)) (by exact .keep (.keep (.keep (.keep (.keep (.keep (.keep (.keep (.keep (.keep (.keep (.keep (.keep (.keep (.keep (.keep .nil)))))))))))))))) (fun x3 s4 => (bj_set 5 nd_row rfl (Or.inl rfl) (ej_callM (κ := (kVal tInt)) (κr := (kVal tInt)) (arg := fun c => (s4.1, c)) 0 (fnat 1 h_take (Nat.le_of_ble_eq_true rfl)) (imm_kVal imm_int) (imm_kVal imm_int) rfl rfl (Or.inl rfl) rfl (aj_cons (pj_vv tInt 1 a.2.1 nm_row rfl (Or.inl rfl) rfl) aj_nil) (fun _ _ => rfl) (fun _ => rfl)) (fun (v6 : B_take) => (bj_setLc 6 nd_row rfl rfl rfl rfl rfl rfl (lcj (κ := (kVal tInt)) [("k", 9)] rfl (pij_rng1 9 nd_row rfl (Or.inl rfl) (Or.inr rfl) rfl hG.range_ (pj_vv tInt 1 a.2.1 nm_row rfl (Or.inl rfl) rfl)) (by decide) (fun x8 => tsj_nil) (fun x8 => (oj_of_pj (pj_neg pj_int)))) (imm_kVal imm_int) (fun v7 => (bj_set 7 nd_row rfl (Or.inr rfl) (ej_ownI (κ := (kL (kVal tInt))) (oj_lst (es_cons (pj_vv tInt 4 x3 nm_row rfl (Or.inl rfl) rfl) (es_nil (τ := tInt))) (by decide)) (imm_kLP (imm_kVal imm_int))) (fun (v9 : (List Int)) => (bj_set 8 nd_row rfl (Or.inl rfl) (ej_imm (τ := tInt) (pj_neg pj_int) imm_int) (fun (v10 : Int) => (bj_for (g := fun (s12 : (List Int) × (List Int) × Int) => [some ⟨(kLP (fun q => q = pn 0) (kVal tInt)), v6.1⟩, sv tInt a.2.1, sv (tList (tList tInt)) a.2.2.1, some ⟨(kL (kVal tInt)), s4.2⟩, sv tInt x3, sv tInt v6.2, some ⟨(kL (kVal tInt)), s12.1⟩, some ⟨(kL (kVal tInt)), s12.2.1⟩, sv tInt s12.2.2, none, none, none, none, none, none, none]) rfl (fj_rng1 9 nd_row rfl (Or.inr rfl) rfl hG.range_ (pj_vv tInt 1 a.2.1 nm_row rfl (Or.inl rfl) rfl)) ((v7, v9, v10)) (by exact .keep (.keep (.keep (.keep (.keep (.keep (.keep (.keep (.keep (.keep (.keep (.keep (.keep (.keep (.keep (.keep .nil)))))))))))))))) (fun x11 s12 => (bj_ifJ (g := fun (s31 : (List Int) × (List Int) × Int) => [some ⟨(kLP (fun q => q = pn 0) (kVal tInt)), v6.1⟩, sv tInt a.2.1, sv (tList (tList tInt)) a.2.2.1, some ⟨(kL (kVal tInt)), s4.2⟩, sv tInt x3, sv tInt v6.2, some ⟨(kL (kVal tInt)), s31.1⟩, some ⟨(kL (kVal tInt)), s31.2.1⟩, sv tInt s31.2.2, sv tInt x11, none, none, none, none, none, none]) (etj_of (tj_wj (wj_and (tj_eqs .eq scaInt (pj_vv tInt 8 s12.2.2 nm_row rfl (Or.inl rfl) rfl) (pj_neg pj_int)) (wj_and1 (tj_icmp .lt (pj_vv tInt 9 x11 nm_row rfl (Or.inr (Or.inl rfl)) rfl) (pj_len (sqList tInt) rfl hG.len_ (pj_vl (kVal tInt) 7 s12.2.1 nm_row rfl (Or.inr (Or.inl rfl)) rfl))))))) (fun (b14 : Bool) => (bj_setLc 10 nd_row rfl rfl rfl rfl rfl rfl (lcj (κ := (kVal tInt)) [("row", 15)] rfl (pij_list (τ := (tList tInt)) 15 nd_row rfl (Or.inl rfl) (Or.inr rfl) (pj_vv (tList (tList tInt)) 2 a.2.2.1 nm_row rfl (Or.inl rfl) rfl)) (by decide) (fun x16 => tsj_nil) (fun x16 => (oj_of_pj (pj_ixL (τ := tInt) (fun _ _ => rfl) (pj_vv (tList tInt) 15 x16 nm_row rfl (Or.inl rfl) rfl) (pj_ixL (τ := tInt) (fun _ _ => rfl) (pj_vl (kVal tInt) 7 s12.2.1 nm_row rfl (Or.inr (Or.inl rfl)) rfl) (pj_vv tInt 9 x11 nm_row rfl (Or.inr (Or.inl rfl)) rfl)))))) (imm_kVal imm_int) (fun v15 => (bj_wk (G' := [some ⟨(kLP (fun q => q = pn 0) (kVal tInt)), v6.1⟩, sv tInt a.2.1, sv (tList (tList tInt)) a.2.2.1, some ⟨(kL (kVal tInt)), s4.2⟩, sv tInt x3, sv tInt v6.2, some ⟨(kL (kVal tInt)), s12.1⟩, some ⟨(kL (kVal tInt)), s12.2.1⟩, sv tInt s12.2.2, sv tInt x11, sv (tList tInt) v15, none, none, none, none, none]) (by exact .keep (.keep (.keep (.keep (.keep (.keep (.keep (.keep (.keep (.keep (.let (.keep (.keep (.keep (.keep (.keep .nil)))))))))))))))) (bj_for (g := fun (s18 : (List Int) × (List Int) × Int) => [some ⟨(kLP (fun q => q = pn 0) (kVal tInt)), v6.1⟩, sv tInt a.2.1, sv (tList (tList tInt)) a.2.2.1, some ⟨(kL (kVal tInt)), s4.2⟩, sv tInt x3, sv tInt v6.2, some ⟨(kL (kVal tInt)), s18.1⟩, some ⟨(kL (kVal tInt)), s18.2.1⟩, sv tInt s18.2.2, sv tInt x11, sv (tList tInt) v15, none, none, none, none, none]) rfl (fj_rng1 11 nd_row rfl (Or.inl rfl) rfl hG.range_ (pj_vv tInt 1 a.2.1 nm_row rfl (Or.inl rfl) rfl)) ((s12.1, s12.2.1, s12.2.2)) (by exact .keep (.keep (.keep (.keep (.keep (.keep (.keep (.keep (.keep (.keep (.keep (.keep (.keep (.keep (.keep (.keep .nil)))))))))))))))) (fun x17 s18 => (bj_set 12 nd_row rfl (Or.inl rfl) (ej_imm (τ := tInt) (pj_mod (pj_int1 rfl hG.int_ (pj_add (pj_vv tInt 5 v6.2 nm_row rfl (Or.inl rfl) rfl) (pj_vv tInt 11 x17 nm_row rfl (Or.inl rfl) rfl))) (pj_vv tInt 1 a.2.1 nm_row rfl (Or.inl rfl) rfl)) imm_int) (fun (v20 : Int) => (bj_ifJ (g := fun (s30 : (List Int) × (List Int) × Int) => [some ⟨(kLP (fun q => q = pn 0) (kVal tInt)), v6.1⟩, sv tInt a.2.1, sv (tList (tList tInt)) a.2.2.1, some ⟨(kL (kVal tInt)), s4.2⟩, sv tInt x3, sv tInt v6.2, some ⟨(kL (kVal tInt)), s30.1⟩, some ⟨(kL (kVal tInt)), s30.2.1⟩, sv tInt s30.2.2, sv tInt x11, sv (tList tInt) v15, sv tInt x17, sv tInt v20, none, none, none]) (etj_of (tj_wj (wj_and (tj_eqs .eq scaInt (pj_vv tInt 8 s18.2.2 nm_row rfl (Or.inl rfl) rfl) (pj_neg pj_int)) (wj_and (tj_eqs .eq scaInt (pj_ixL (τ := tInt) (fun _ _ => rfl) (pj_vl (kVal tInt) 6 s18.1 nm_row rfl (Or.inl rfl) rfl) (pj_vv tInt 12 v20 nm_row rfl (Or.inl rfl) rfl)) (pj_neg pj_int)) (wj_and1 (tj_in .notin (sqList tInt) rfl (pj_vv tInt 12 v20 nm_row rfl (Or.inl rfl) rfl) (pj_vv (tList tInt) 10 v15 nm_row rfl (Or.inl rfl) rfl))))))) (fun (b21 : Bool) => (bj_setIx (κ := (kVal tInt)) (xs := fun (v22 : Int) (v23 : Int) => s18.1) (k := fun (v23 : Int) => v23) 6 rfl (Or.inl rfl) rfl (ej_imm (τ := tInt) (pj_ixL (τ := tInt) (fun _ _ => rfl) (pj_vl (kVal tInt) 7 s18.2.1 nm_row rfl (Or.inr (Or.inl rfl)) rfl) (pj_vv tInt 9 x11 nm_row rfl (Or.inr (Or.inl rfl)) rfl)) imm_int) (fun (v22 : Int) => (ej_imm (τ := tInt) (pj_vv tInt 12 v20 nm_row rfl (Or.inl rfl) rfl) imm_int)) (fun _ _ => rfl) (fun (v22 : Int) (v23 : Int) (v24 : (List Int)) => (bj_ifJ (g := fun (s29 : (List Int) × Int) => [some ⟨(kLP (fun q => q = pn 0) (kVal tInt)), v6.1⟩, sv tInt a.2.1, sv (tList (tList tInt)) a.2.2.1, some ⟨(kL (kVal tInt)), s4.2⟩, sv tInt x3, sv tInt v6.2, some ⟨(kL (kVal tInt)), v24⟩, some ⟨(kL (kVal tInt)), s29.1⟩, sv tInt s29.2, sv tInt x11, sv (tList tInt) v15, sv tInt x17, sv tInt v20, none, none, none]) (etj_of (tj_eqs .eq scaInt (pj_ixL (τ := tInt) (fun _ _ => rfl) (pj_vl (kVal tInt) 3 s4.2 nm_row rfl (Or.inr (Or.inl rfl)) rfl) (pj_vv tInt 12 v20 nm_row rfl (Or.inl rfl) rfl)) (pj_neg pj_int))) (fun (b25 : Bool) => (bj_set 8 nd_row rfl (Or.inl rfl) (ej_imm (τ := tInt) (pj_vv tInt 12 v20 nm_row rfl (Or.inl rfl) rfl) imm_int) (fun (v26 : Int) => (bj_nil (G' := [some ⟨(kLP (fun q => q = pn 0) (kVal tInt)), v6.1⟩, sv tInt a.2.1, sv (tList (tList tInt)) a.2.2.1, some ⟨(kL (kVal tInt)), s4.2⟩, sv tInt x3, sv tInt v6.2, some ⟨(kL (kVal tInt)), v24⟩, some ⟨(kL (kVal tInt)), s18.2.1⟩, sv tInt v26, sv tInt x11, sv (tList tInt) v15, sv tInt x17, sv tInt v20, none, none, none]) (a := (s18.2.1, v26)) (by exact .keep (.keep (.keep (.keep (.keep (.keep (.keep (.keep (.keep (.keep (.keep (.keep (.keep (.keep (.keep (.keep .nil)))))))))))))))) rfl)))) (fun (b25 : Bool) => (bj_expr (ej_append (κ := (kVal tInt)) (xs := fun (r27 : Int) => s18.2.1) 7 rfl (Or.inr (Or.inl rfl)) rfl (ej_imm (τ := tInt) (pj_ixL (τ := tInt) (fun _ _ => rfl) (pj_vl (kVal tInt) 3 s4.2 nm_row rfl (Or.inr (Or.inl rfl)) rfl) (pj_vv tInt 12 v20 nm_row rfl (Or.inl rfl) rfl)) imm_int) (fun _ => rfl)) (fun (v28 : ((Int) × (List Int))) => (bj_nil (G' := [some ⟨(kLP (fun q => q = pn 0) (kVal tInt)), v6.1⟩, sv tInt a.2.1, sv (tList (tList tInt)) a.2.2.1, some ⟨(kL (kVal tInt)), s4.2⟩, sv tInt x3, sv tInt v6.2, some ⟨(kL (kVal tInt)), v24⟩, some ⟨(kL (kVal tInt)), v28.2⟩, sv tInt s18.2.2, sv tInt x11, sv (tList tInt) v15, sv tInt x17, sv tInt v20, none, none, none]) (a := (v28.2, s18.2.2)) (by exact .keep (.keep (.keep (.keep (.keep (.keep (.keep (.keep (.keep (.keep (.keep (.keep (.keep (.keep (.keep (.keep .nil)))))))))))))))) rfl)))) (fun s29 => (bj_nil (G' := [some ⟨(kLP (fun q => q = pn 0) (kVal tInt)), v6.1⟩, sv tInt a.2.1, sv (tList (tList tInt)) a.2.2.1, some ⟨(kL (kVal tInt)), s4.2⟩, sv tInt x3, sv tInt v6.2, some ⟨(kL (kVal tInt)), v24⟩, some ⟨(kL (kVal tInt)), s29.1⟩, sv tInt s29.2, sv tInt x11, sv (tList tInt) v15, sv tInt x17, sv tInt v20, none, none, none]) (a := (v24, s29.1, s29.2)) (by exact .keep (.keep (.keep (.keep (.keep (.keep (.keep (.keep (.keep (.keep (.keep (.keep (.keep (.keep (.keep (.keep .nil)))))))))))))))) rfl)))))) (fun (b21 : Bool) => (bj_nil (G' := [some ⟨(kLP (fun q => q = pn 0) (kVal tInt)), v6.1⟩, sv tInt a.2.1, sv (tList (tList tInt)) a.2.2.1, some ⟨(kL (kVal tInt)), s4.2⟩, sv tInt x3, sv tInt v6.2, some ⟨(kL (kVal tInt)), s18.1⟩, some ⟨(kL (kVal tInt)), s18.2.1⟩, sv tInt s18.2.2, sv tInt x11, sv (tList tInt) v15, sv tInt x17, sv tInt v20, none, none, none]) (a := (s18.1, s18.2.1, s18.2.2)) (by exact .keep (.keep (.keep (.keep (.keep (.keep (.keep (.keep (.keep (.keep (.keep (.keep (.keep (.keep (.keep (.keep .nil)))))))))))))))) rfl)) (fun s30 => (bj_nil (G' := [some ⟨(kLP (fun q => q = pn 0) (kVal tInt)), v6.1⟩, sv tInt a.2.1, sv (tList (tList tInt)) a.2.2.1, some ⟨(kL (kVal tInt)), s4.2⟩, sv tInt x3, sv tInt v6.2, some ⟨(kL (kVal tInt)), s30.1⟩, some ⟨(kL (kVal tInt)), s30.2.1⟩, sv tInt s30.2.2, sv tInt x11, sv (tList tInt) v15, none, none, none, none, none]) (a := (s30.1, s30.2.1, s30.2.2)) (by exact .keep (.keep (.keep (.keep (.keep (.keep (.keep (.keep (.keep (.keep (.keep (.drop (.drop (.keep (.keep (.keep .nil)))))))))))))))) rfl)))))) (fun s19 => (bj_nil (G' := [some ⟨(kLP (fun q => q = pn 0) (kVal tInt)), v6.1⟩, sv tInt a.2.1, sv (tList (tList tInt)) a.2.2.1, some ⟨(kL (kVal tInt)), s4.2⟩, sv tInt x3, sv tInt v6.2, some ⟨(kL (kVal tInt)), s19.1⟩, some ⟨(kL (kVal tInt)), s19.2.1⟩, sv tInt s19.2.2, sv tInt x11, none, none, none, none, none, none]) (a := (s19.1, s19.2.1, s19.2.2)) (by exact .keep (.keep (.keep (.keep (.keep (.keep (.keep (.keep (.keep (.keep (.drop (.keep (.keep (.keep (.keep (.keep .nil)))))))))))))))) rfl))))))) (fun (b14 : Bool) => (bj_nil (G' := [some ⟨(kLP (fun q => q = pn 0) (kVal tInt)), v6.1⟩, sv tInt a.2.1, sv (tList (tList tInt)) a.2.2.1, some ⟨(kL (kVal tInt)), s4.2⟩, sv tInt x3, sv tInt v6.2, some ⟨(kL (kVal tInt)), s12.1⟩, some ⟨(kL (kVal tInt)), s12.2.1⟩, sv tInt s12.2.2, sv tInt x11, none, none, none, none, none, none]) (a := (s12.1, s12.2.1, s12.2.2)) (by exact .keep (.keep (.keep (.keep (.keep (.keep (.keep (.keep (.keep (.keep (.keep (.keep (.keep (.keep (.keep (.keep .nil)))))))))))))))) rfl)) (fun s31 => (bj_nil (G' := [some ⟨(kLP (fun q => q = pn 0) (kVal tInt)), v6.1⟩, sv tInt a.2.1, sv (tList (tList tInt)) a.2.2.1, some ⟨(kL (kVal tInt)), s4.2⟩, sv tInt x3, sv tInt v6.2, some ⟨(kL (kVal tInt)), s31.1⟩, some ⟨(kL (kVal tInt)), s31.2.1⟩, sv tInt s31.2.2, none, none, none, none, none, none, none]) (a := (s31.1, s31.2.1, s31.2.2)) (by exact .keep (.keep (.keep (.keep (.keep (.keep (.keep (.keep (.keep (.drop (.keep (.keep (.keep (.keep (.keep (.keep .nil)))))))))))))))) rfl)))) (fun s13 => (bj_for (g := fun (s33 : (List Int) × Int) => [some ⟨(kLP (fun q => q = pn 0) (kVal tInt)), v6.1⟩, sv tInt a.2.1, sv (tList (tList tInt)) a.2.2.1, some ⟨(kL (kVal tInt)), s33.1⟩, sv tInt x3, sv tInt v6.2, some ⟨(kL (kVal tInt)), s13.1⟩, some ⟨(kL (kVal tInt)), s13.2.1⟩, sv tInt s33.2, none, none, none, none, none, none, none]) rfl (fj_rng1 9 nd_row rfl (Or.inr rfl) rfl hG.range_ (pj_vv tInt 1 a.2.1 nm_row rfl (Or.inl rfl) rfl)) ((s4.2, s13.2.2)) (by exact .keep (.keep (.keep (.keep (.keep (.keep (.keep (.keep (.keep (.keep (.keep (.keep (.keep (.keep (.keep (.keep .nil)))))))))))))))) (fun x32 s33 => (bj_ifJ (g := fun (s45 : (List Int) × Int) => [some ⟨(kLP (fun q => q = pn 0) (kVal tInt)), v6.1⟩, sv tInt a.2.1, sv (tList (tList tInt)) a.2.2.1, some ⟨(kL (kVal tInt)), s45.1⟩, sv tInt x3, sv tInt v6.2, some ⟨(kL (kVal tInt)), s13.1⟩, some ⟨(kL (kVal tInt)), s13.2.1⟩, sv tInt s45.2, sv tInt x32, none, none, none, none, none, none]) (etj_of (tj_eqs .ne scaInt (pj_vv tInt 8 s33.2 nm_row rfl (Or.inl rfl) rfl) (pj_neg pj_int))) (fun (b35 : Bool) => (bj_set 13 nd_row rfl (Or.inl rfl) (ej_imm (τ := tInt) (pj_ixL (τ := tInt) (fun _ _ => rfl) (pj_vl (kVal tInt) 6 s13.1 nm_row rfl (Or.inl rfl) rfl) (pj_vv tInt 8 s33.2 nm_row rfl (Or.inl rfl) rfl)) imm_int) (fun (v36 : Int) => (bj_set 14 nd_row rfl (Or.inl rfl) (ej_imm (τ := tInt) (pj_neg pj_int) imm_int) (fun (v37 : Int) => (bj_ifJ (g := fun (s40 : Int) => [some ⟨(kLP (fun q => q = pn 0) (kVal tInt)), v6.1⟩, sv tInt a.2.1, sv (tList (tList tInt)) a.2.2.1, some ⟨(kL (kVal tInt)), s33.1⟩, sv tInt x3, sv tInt v6.2, some ⟨(kL (kVal tInt)), s13.1⟩, some ⟨(kL (kVal tInt)), s13.2.1⟩, sv tInt s33.2, sv tInt x32, none, none, none, sv tInt v36, sv tInt s40, none]) (etj_of (tj_eqs .ne scaInt (pj_vv tInt 13 v36 nm_row rfl (Or.inl rfl) rfl) (pj_vv tInt 4 x3 nm_row rfl (Or.inl rfl) rfl))) (fun (b38 : Bool) => (bj_set 14 nd_row rfl (Or.inl rfl) (ej_imm (τ := tInt) (pj_index (pj_vl (kVal tInt) 3 s33.1 nm_row rfl (Or.inr (Or.inl rfl)) rfl) (pj_vv tInt 13 v36 nm_row rfl (Or.inl rfl) rfl)) imm_int) (fun (v39 : Int) => (bj_nil (G' := [some ⟨(kLP (fun q => q = pn 0) (kVal tInt)), v6.1⟩, sv tInt a.2.1, sv (tList (tList tInt)) a.2.2.1, some ⟨(kL (kVal tInt)), s33.1⟩, sv tInt x3, sv tInt v6.2, some ⟨(kL (kVal tInt)), s13.1⟩, some ⟨(kL (kVal tInt)), s13.2.1⟩, sv tInt s33.2, sv tInt x32, none, none, none, sv tInt v36, sv tInt v39, none]) (a := v39) (by exact .keep (.keep (.keep (.keep (.keep (.keep (.keep (.keep (.keep (.keep (.keep (.keep (.keep (.keep (.keep (.keep .nil)))))))))))))))) rfl)))) (fun (b38 : Bool) => (bj_nil (G' := [some ⟨(kLP (fun q => q = pn 0) (kVal tInt)), v6.1⟩, sv tInt a.2.1, sv (tList (tList tInt)) a.2.2.1, some ⟨(kL (kVal tInt)), s33.1⟩, sv tInt x3, sv tInt v6.2, some ⟨(kL (kVal tInt)), s13.1⟩, some ⟨(kL (kVal tInt)), s13.2.1⟩, sv tInt s33.2, sv tInt x32, none, none, none, sv tInt v36, sv tInt v37, none]) (a := v37) (by exact .keep (.keep (.keep (.keep (.keep (.keep (.keep (.keep (.keep (.keep (.keep (.keep (.keep (.keep (.keep (.keep .nil)))))))))))))))) rfl)) (fun s40 => (bj_setIx (κ := (kVal tInt)) (xs := fun (v41 : Int) (v42 : Int) => s33.1) (k := fun (v42 : Int) => v42) 3 rfl (Or.inr (Or.inl rfl)) rfl (ej_imm (τ := tInt) (pj_vv tInt 13 v36 nm_row rfl (Or.inl rfl) rfl) imm_int) (fun (v41 : Int) => (ej_imm (τ := tInt) (pj_vv tInt 8 s33.2 nm_row rfl (Or.inl rfl) rfl) imm_int)) (fun _ _ => rfl) (fun (v41 : Int) (v42 : Int) (v43 : (List Int)) => (bj_set 8 nd_row rfl (Or.inl rfl) (ej_imm (τ := tInt) (pj_vv tInt 14 s40 nm_row rfl (Or.inl rfl) rfl) imm_int) (fun (v44 : Int) => (bj_nil (G' := [some ⟨(kLP (fun q => q = pn 0) (kVal tInt)), v6.1⟩, sv tInt a.2.1, sv (tList (tList tInt)) a.2.2.1, some ⟨(kL (kVal tInt)), v43⟩, sv tInt x3, sv tInt v6.2, some ⟨(kL (kVal tInt)), s13.1⟩, some ⟨(kL (kVal tInt)), s13.2.1⟩, sv tInt v44, sv tInt x32, none, none, none, none, none, none]) (a := (v43, v44)) (by exact .keep (.keep (.keep (.keep (.keep (.keep (.keep (.keep (.keep (.keep (.keep (.keep (.keep (.drop (.drop (.keep .nil)))))))))))))))) rfl)))))))))))) (fun (b35 : Bool) => (bj_nil (G' := [some ⟨(kLP (fun q => q = pn 0) (kVal tInt)), v6.1⟩, sv tInt a.2.1, sv (tList (tList tInt)) a.2.2.1, some ⟨(kL (kVal tInt)), s33.1⟩, sv tInt x3, sv tInt v6.2, some ⟨(kL (kVal tInt)), s13.1⟩, some ⟨(kL (kVal tInt)), s13.2.1⟩, sv tInt s33.2, sv tInt x32, none, none, none, none, none, none]) (a := (s33.1, s33.2)) (by exact .keep (.keep (.keep (.keep (.keep (.keep (.keep (.keep (.keep (.keep (.keep (.keep (.keep (.keep (.keep (.keep .nil)))))))))))))))) rfl)) (fun s45 => (bj_nil (G' := [some ⟨(kLP (fun q => q = pn 0) (kVal tInt)), v6.1⟩, sv tInt a.2.1, sv (tList (tList tInt)) a.2.2.1, some ⟨(kL (kVal tInt)), s45.1⟩, sv tInt x3, sv tInt v6.2, some ⟨(kL (kVal tInt)), s13.1⟩, some ⟨(kL (kVal tInt)), s13.2.1⟩, sv tInt s45.2, none, none, none, none, none, none, none]) (a := (s45.1, s45.2)) (by exact .keep (.keep (.keep (.keep (.keep (.keep (.keep (.keep (.keep (.drop (.keep (.keep (.keep (.keep (.keep (.keep .nil)))))))))))))))) rfl)))) (fun s34 => (bj_nil (G' := [some ⟨(kLP (fun q => q = pn 0) (kVal tInt)), v6.1⟩, sv tInt a.2.1, sv (tList (tList tInt)) a.2.2.1, some ⟨(kL (kVal tInt)), s34.1⟩, none, none, none, none, none, none, none, none, none, none, none, none]) (a := (v6.1, s34.1)) (by exact .keep (.keep (.keep (.keep (.drop (.drop (.drop (.drop (.drop (.keep (.keep (.keep (.keep (.keep (.keep (.keep .nil)))))))))))))))) rfl)))))))))))))) (fun s5 => (bj_wk (G' := [some ⟨(kLP (fun q => q = pn 0) (kVal tInt)), s5.1⟩, sv tInt a.2.1, sv (tList (tList tInt)) a.2.2.1, sv (tList tInt) s5.2, none, none, none, none, none, none, none, none, none, none, none, none]) (by exact .keep (.keep (.keep (.let (.keep (.keep (.keep (.keep (.keep (.keep (.keep (.keep (.keep (.keep (.keep (.keep .nil)))))))))))))))) (bj_rt (fun (v47 : (List Int)) => gx_row cA pn ((s5.1, v47))) (fun (v47 : (List Int)) => (s5.1, v47)) (ej_ownI (κ := (kL (kVal tInt))) (oj_lc nd_row rfl (lcj (κ := (kVal tInt)) [("column", 4)] rfl (pij_rng1 4 nd_row rfl (Or.inl rfl) (Or.inr rfl) rfl hG.range_ (pj_vv tInt 1 a.2.1 nm_row rfl (Or.inl rfl) rfl)) (by decide) (fun x46 => tsj_nil) (fun x46 => (oj_of_pj (pj_index (pj_vv (tList tInt) 3 s5.2 nm_row rfl (Or.inr (Or.inl rfl)) rfl) (pj_vv tInt 4 x46 nm_row rfl (Or.inl rfl) rfl)))))) (imm_kLP (imm_kVal imm_int))) (fun _ => rfl) (by exact fun _ => .keep (.drop (.drop (.drop (.keep (.keep (.keep (.keep (.keep (.keep (.keep (.keep (.keep (.keep (.keep (.keep .nil))))))))))))))))))))))⟩
abbrev m_row : A_row → Res B_row := d_row.1
abbrev sp_row (K : Fg) (mg : Str → Option Value) (cA : Ad) : Sp := SpOf K mg 3 (gp_row cA) m_row (gx_row cA) (kL (kVal tInt)) (fun b => b.2)

abbrev S_latin : Stmt := topS 17
abbrev N_latin : List Str := ["numbers", "order", "rows", "k"]
theorem sc_latin : FnScope N_latin ["numbers", "order"] (defScope S_latin) := ⟨rfl, rfl, rfl, by decide +kernel, rfl, by decide +kernel, by decide +kernel⟩
theorem nm_latin : nmOk N_latin = true := by decide +kernel
theorem nd_latin : N_latin.Nodup := sc_latin.nd
abbrev A_latin := (List Int) × Int × Unit
abbrev B_latin := (List Int) × (List (List Int))
abbrev gp_latin (cA : Ad) (pn : Nat → Addr) (a : A_latin) : List Slot := [some ⟨(kLP (fun q => q = pn 0) (kVal tInt)), a.1⟩, sv tInt a.2.1]
abbrev gx_latin (cA : Ad) (pn : Nat → Addr) (b : B_latin) : List Slot := [some ⟨(kLP (fun q => q = pn 0) (kVal tInt)), b.1⟩, none, none, none]
def d_latin : { m : A_latin → Res B_latin // ∀ (P : Program) (w : World) (K : Fg) (mg : Str → Option Value) (base : Heap) (cA : Ad) (hG : Gl mg) (hX : Cf K mg cA) (h_row : FnG P w K mg base 2 "_law_row" ["numbers", "order", "rows"] (sp_row K mg cA)) (pn : Nat → Addr) (a : A_latin),
    BJ (bdOf P w K mg base 2 N_latin S_latin) (gp_latin cA pn a ++ List.replicate 2 none) (defBody S_latin) (m a) (fun b => .rt (gx_latin cA pn b) (kL (kVal (tList tInt))) b.2) } :=
  ⟨_, fun P w K mg base cA hG hX h_row pn a =>
    (bj_set 2 nd_latin rfl (Or.inl rfl) (ej_own (κ := (kL (kVal (tList tInt)))) (oj_lst (es_nil (τ := (tList tInt))) (by decide))) (fun (v1 : (List (List Int))) => (bj_for (g := fun (s3 : (List Int) × (List (List Int))) => [some ⟨(kLP (fun q => q = pn 0) (kVal tInt)), s3.1⟩, sv tInt a.2.1, some ⟨(kL (kVal (tList tInt))), s3.2⟩, none]) rfl (fj_rng1 3 nd_latin rfl (Or.inl rfl) rfl hG.range_ (pj_vv tInt 1 a.2.1 nm_latin rfl (Or.inl rfl) rfl)) ((a.1, v1)) (by exact .keep (.keep (.keep (.keep .nil)))) (fun x2 s3 => (bj_expr (ej_append (κ := (kVal (tList tInt))) (xs := fun (r5 : B_row) => s3.2) 2 rfl (Or.inl rfl) rfl (ej_let (κ := (kL (kVal tInt))) (ej_callM (κ := (kVal tInt)) (κr := (kL (kVal tInt))) (arg := fun c => (s3.1, c)) 0 (fnat 2 h_row (Nat.le_of_ble_eq_true rfl)) (imm_kVal imm_int) (imm_kLP (imm_kVal imm_int)) rfl rfl (Or.inl rfl) rfl (aj_cons (pj_vv tInt 1 a.2.1 nm_latin rfl (Or.inl rfl) rfl) (aj_cons (pj_vl (kVal (tList tInt)) 2 s3.2 nm_latin rfl (Or.inl rfl) rfl) aj_nil)) (fun _ _ => rfl) (fun _ => rfl))) (fun _ => rfl)) (fun (v6 : ((B_row) × (List (List Int)))) => (bj_nil (G' := [some ⟨(kLP (fun q => q = pn 0) (kVal tInt)), v6.1.1⟩, sv tInt a.2.1, some ⟨(kL (kVal (tList tInt))), v6.2⟩, none]) (a := (v6.1.1, v6.2)) (by exact .keep (.keep (.keep (.drop .nil)))) rfl)))) (fun s4 => (bj_rt (fun (v7 : Unit) => gx_latin cA pn ((s4.1, s4.2))) (fun (v7 : Unit) => (s4.1, s4.2)) (ej_move (κ := (kL (kVal (tList tInt)))) 2 (x := s4.2) rfl (Or.inl rfl) rfl) (fun _ => rfl) (by exact fun _ => .keep (.drop (.keep (.keep .nil)))))))))⟩
abbrev m_latin : A_latin → Res B_latin := d_latin.1
abbrev sp_latin (K : Fg) (mg : Str → Option Value) (cA : Ad) : Sp := SpOf K mg 2 (gp_latin cA) m_latin (gx_latin cA) (kL (kVal (tList tInt))) (fun b => b.2)

abbrev S_is_renaming : Stmt := topS 8
abbrev N_is_renaming : List Str := ["names", "order"]
theorem sc_is_renaming : FnScope N_is_renaming ["names", "order"] (defScope S_is_renaming) := ⟨rfl, rfl, rfl, by decide +kernel, rfl, by decide +kernel, by decide +kernel⟩
theorem nm_is_renaming : nmOk N_is_renaming = true := by decide +kernel
theorem nd_is_renaming : N_is_renaming.Nodup := sc_is_renaming.nd
abbrev A_is_renaming := (List Int) × Int × Unit
abbrev B_is_renaming := Bool
abbrev gp_is_renaming (cA : Ad) (pn : Nat → Addr) (a : A_is_renaming) : List Slot := [sv (tTup tInt) a.1, sv tInt a.2.1]
abbrev gx_is_renaming (cA : Ad) (pn : Nat → Addr) (b : B_is_renaming) : List Slot := [none, none]
def d_is_renaming : { m : A_is_renaming → Res B_is_renaming // ∀ (P : Program) (w : World) (K : Fg) (mg : Str → Option Value) (base : Heap) (cA : Ad) (hG : Gl mg) (hX : Cf K mg cA) (pn : Nat → Addr) (a : A_is_renaming),
    BJ (bdOf P w K mg base 0 N_is_renaming S_is_renaming) (gp_is_renaming cA pn a ++ List.replicate 0 none) (defBody S_is_renaming) (m a) (fun b => .rt (gx_is_renaming cA pn b) (kVal tBool) b) } :=
  ⟨_, fun P w K mg base cA hG hX  pn a =>
    (bj_rt (fun (v1 : Bool) => gx_is_renaming cA pn v1) (fun (v1 : Bool) => v1) (ej_imm (τ := tBool) (pj_eqd .eq (deqOf (dnList dnInt) (by decide)) (pj_of_oj (κ := (kL (kVal tInt))) (oj_sorted (sqTup tInt) rfl hG.sorted_ (pj_vv (tTup tInt) 0 a.1 nm_is_renaming rfl (Or.inl rfl) rfl))) (pj_of_oj (κ := (kL (kVal tInt))) (oj_listRg1 rfl rfl hG.list_ rfl hG.range_ (pj_vv tInt 1 a.2.1 nm_is_renaming rfl (Or.inl rfl) rfl)))) imm_bool) (fun _ => rfl) (by exact fun _ => .drop (.drop .nil)))⟩
abbrev m_is_renaming : A_is_renaming → Res B_is_renaming := d_is_renaming.1
abbrev sp_is_renaming (K : Fg) (mg : Str → Option Value) (cA : Ad) : Sp := SpOf K mg 2 (gp_is_renaming cA) m_is_renaming (gx_is_renaming cA) (kVal tBool) (fun b => b)

abbrev S_is_renaming_1 : Stmt := topS 8
abbrev N_is_renaming_1 : List Str := ["names", "order"]
theorem sc_is_renaming_1 : FnScope N_is_renaming_1 ["names", "order"] (defScope S_is_renaming_1) := ⟨rfl, rfl, rfl, by decide +kernel, rfl, by decide +kernel, by decide +kernel⟩
theorem nm_is_renaming_1 : nmOk N_is_renaming_1 = true := by decide +kernel
theorem nd_is_renaming_1 : N_is_renaming_1.Nodup := sc_is_renaming_1.nd
abbrev A_is_renaming_1 := (List Int) × Int × Unit
abbrev B_is_renaming_1 := Bool
abbrev gp_is_renaming_1 (cA : Ad) (pn : Nat → Addr) (a : A_is_renaming_1) : List Slot := [sv (tList tInt) a.1, sv tInt a.2.1]
abbrev gx_is_renaming_1 (cA : Ad) (pn : Nat → Addr) (b : B_is_renaming_1) : List Slot := [none, none]
def d_is_renaming_1 : { m : A_is_renaming_1 → Res B_is_renaming_1 // ∀ (P : Program) (w : World) (K : Fg) (mg : Str → Option Value) (base : Heap) (cA : Ad) (hG : Gl mg) (hX : Cf K mg cA) (pn : Nat → Addr) (a : A_is_renaming_1),
    BJ (bdOf P w K mg base 0 N_is_renaming_1 S_is_renaming_1) (gp_is_renaming_1 cA pn a ++ List.replicate 0 none) (defBody S_is_renaming_1) (m a) (fun b => .rt (gx_is_renaming_1 cA pn b) (kVal tBool) b) } :=
  ⟨_, fun P w K mg base cA hG hX  pn a =>
    (bj_rt (fun (v1 : Bool) => gx_is_renaming_1 cA pn v1) (fun (v1 : Bool) => v1) (ej_imm (τ := tBool) (pj_eqd .eq (deqOf (dnList dnInt) (by decide)) (pj_of_oj (κ := (kL (kVal tInt))) (oj_sorted (sqList tInt) rfl hG.sorted_ (pj_vv (tList tInt) 0 a.1 nm_is_renaming_1 rfl (Or.inl rfl) rfl))) (pj_of_oj (κ := (kL (kVal tInt))) (oj_listRg1 rfl rfl hG.list_ rfl hG.range_ (pj_vv tInt 1 a.2.1 nm_is_renaming_1 rfl (Or.inl rfl) rfl)))) imm_bool) (fun _ => rfl) (by exact fun _ => .drop (.drop .nil)))⟩
abbrev m_is_renaming_1 : A_is_renaming_1 → Res B_is_renaming_1 := d_is_renaming_1.1
abbrev sp_is_renaming_1 (K : Fg) (mg : Str → Option Value) (cA : Ad) : Sp := SpOf K mg 2 (gp_is_renaming_1 cA) m_is_renaming_1 (gx_is_renaming_1 cA) (kVal tBool) (fun b => b)

abbrev S_check_table : Stmt := topS 10
abbrev N_check_table : List Str := ["rows", "order", "row", "y"]
theorem sc_check_table : FnScope N_check_table ["rows"] (defScope S_check_table) := ⟨rfl, rfl, rfl, by decide +kernel, rfl, by decide +kernel, by decide +kernel⟩
theorem nm_check_table : nmOk N_check_table = true := by decide +kernel
theorem nd_check_table : N_check_table.Nodup := sc_check_table.nd
abbrev A_check_table := (List (List Int)) × Unit
abbrev B_check_table := Unit
abbrev gp_check_table (cA : Ad) (pn : Nat → Addr) (a : A_check_table) : List Slot := [sv (tTup (tTup tInt)) a.1]
abbrev gx_check_table (cA : Ad) (pn : Nat → Addr) (b : B_check_table) : List Slot := [none, none, none, none]
def d_check_table : { m : A_check_table → Res B_check_table // ∀ (P : Program) (w : World) (K : Fg) (mg : Str → Option Value) (base : Heap) (cA : Ad) (hG : Gl mg) (hX : Cf K mg cA) (h_is_renaming : FnG P w K mg base 1 "is_renaming" ["names", "order"] (sp_is_renaming K mg cA)) (h_is_renaming_1 : FnG P w K mg base 1 "is_renaming" ["names", "order"] (sp_is_renaming_1 K mg cA)) (pn : Nat → Addr) (a : A_check_table),
    BJ (bdOf P w K mg base 1 N_check_table S_check_table) (gp_check_table cA pn a ++ List.replicate 3 none) (defBody S_check_table) (m a) (fun b => .nx (gx_check_table cA pn b)) } :=
  ⟨_, fun P w K mg base cA hG hX h_is_renaming h_is_renaming_1 pn a =>
    (bj_set 1 nd_check_table rfl (Or.inl rfl) (ej_imm (τ := tInt) (pj_len (sqTup (tTup tInt)) rfl hG.len_ (pj_vv (tTup (tTup tInt)) 0 a.1 nm_check_table rfl (Or.inl rfl) rfl)) imm_int) (fun (v1 : Int) => (bj_ifT (ζ := Empty) (finz := (fun z => nomatch z)) (inj := (fun z => nomatch z)) (etj_of (tj_wj (wj_or (tj_icmp .lt (pj_vv tInt 1 v1 nm_check_table rfl (Or.inl rfl) rfl) pj_int) (wj_or1 (tj_icmp .gt (pj_vv tInt 1 v1 nm_check_table rfl (Or.inl rfl) rfl) (pj_globI 8 rfl hG.MOST_ORDER_)))))) (fun (b2 : Bool) => (bj_raise rfl (exat hX.x_BadMerge) rfl)) (fun z => nomatch z) (fun z => nomatch z) (fun (b2 : Bool) => (bj_for (g := fun (s4 : Unit) => [sv (tTup (tTup tInt)) a.1, sv tInt v1, none, none]) rfl (fj_tup (τ := (tTup tInt)) 2 nd_check_table rfl (Or.inl rfl) (pj_vv (tTup (tTup tInt)) 0 a.1 nm_check_table rfl (Or.inl rfl) rfl)) (()) (by exact .keep (.keep (.keep (.keep .nil)))) (fun x3 s4 => (bj_ifT (ζ := Empty) (finz := (fun z => nomatch z)) (inj := (fun z => nomatch z)) (etj_of (tj_not (tj_val (pj_of_oj (κ := (kVal tBool)) (oj_call (κ := (kVal tBool)) (arg := fun c => c) (fnat 1 h_is_renaming (Nat.le_of_ble_eq_true rfl)) rfl (aj_cons (pj_vv (tTup tInt) 2 x3 nm_check_table rfl (Or.inl rfl) rfl) (aj_cons (pj_vv tInt 1 v1 nm_check_table rfl (Or.inl rfl) rfl) aj_nil)) (fun _ _ => rfl) (fun _ => rfl)))))) (fun (b6 : Bool) => (bj_raise rfl (exat hX.x_BadMerge) rfl)) (fun z => nomatch z) (fun z => nomatch z) (fun (b6 : Bool) => (bj_nil (G' := [sv (tTup (tTup tInt)) a.1, sv tInt v1, none, none]) (a := ()) (by exact .keep (.keep (.drop (.keep .nil)))) rfl)))) (fun s5 => (bj_for (g := fun (s8 : Unit) => [sv (tTup (tTup tInt)) a.1, sv tInt v1, none, none]) rfl (fj_rng1 3 nd_check_table rfl (Or.inr rfl) rfl hG.range_ (pj_vv tInt 1 v1 nm_check_table rfl (Or.inl rfl) rfl)) (()) (by exact .keep (.keep (.keep (.keep .nil)))) (fun x7 s8 => (bj_ifT (ζ := Empty) (finz := (fun z => nomatch z)) (inj := (fun z => nomatch z)) (etj_of (tj_not (tj_val (pj_of_oj (κ := (kVal tBool)) (oj_call (κ := (kVal tBool)) (arg := fun c => c) (fnat 1 h_is_renaming_1 (Nat.le_of_ble_eq_true rfl)) rfl (aj_cons (pj_of_oj (κ := (kL (kVal tInt))) (oj_lc nd_check_table rfl (lcj (κ := (kVal tInt)) [("row", 2)] rfl (pij_tup (τ := (tTup tInt)) 2 nd_check_table rfl (Or.inl rfl) (Or.inr rfl) (pj_vv (tTup (tTup tInt)) 0 a.1 nm_check_table rfl (Or.inl rfl) rfl)) (by decide) (fun x10 => tsj_nil) (fun x10 => (oj_of_pj (pj_ixT (τ := tInt) (fun _ _ => rfl) (pj_vv (tTup tInt) 2 x10 nm_check_table rfl (Or.inl rfl) rfl) (pj_vv tInt 3 x7 nm_check_table rfl (Or.inr (Or.inl rfl)) rfl))))))) (aj_cons (pj_vv tInt 1 v1 nm_check_table rfl (Or.inl rfl) rfl) aj_nil)) (fun _ _ => rfl) (fun _ => rfl)))))) (fun (b11 : Bool) => (bj_raise rfl (exat hX.x_BadMerge) rfl)) (fun z => nomatch z) (fun z => nomatch z) (fun (b11 : Bool) => (bj_nil (G' := [sv (tTup (tTup tInt)) a.1, sv tInt v1, none, none]) (a := ()) (by exact .keep (.keep (.keep (.drop .nil)))) rfl)))) (fun s9 => (bj_nil (G' := [none, none, none, none]) (a := ()) (by exact .drop (.drop (.keep (.keep .nil)))) rfl)))))))))⟩
abbrev m_check_table : A_check_table → Res B_check_table := d_check_table.1
abbrev sp_check_table (K : Fg) (mg : Str → Option Value) (cA : Ad) : Sp := SpOf K mg 1 (gp_check_table cA) m_check_table (gx_check_table cA) (kVal tNone) (fun _ => ())

abbrev S_inverted : Stmt := topS 9
abbrev N_inverted : List Str := ["names", "back", "thing", "name"]
theorem sc_inverted : FnScope N_inverted ["names"] (defScope S_inverted) := ⟨rfl, rfl, rfl, by decide +kernel, rfl, by decide +kernel, by decide +kernel⟩
theorem nm_inverted : nmOk N_inverted = true := by decide +kernel
theorem nd_inverted : N_inverted.Nodup := sc_inverted.nd
abbrev A_inverted := (List Int) × Unit
abbrev B_inverted := (List Int)
abbrev gp_inverted (cA : Ad) (pn : Nat → Addr) (a : A_inverted) : List Slot := [sv (tTup tInt) a.1]
abbrev gx_inverted (cA : Ad) (pn : Nat → Addr) (b : B_inverted) : List Slot := [none, none, none, none]
def d_inverted : { m : A_inverted → Res B_inverted // ∀ (P : Program) (w : World) (K : Fg) (mg : Str → Option Value) (base : Heap) (cA : Ad) (hG : Gl mg) (hX : Cf K mg cA) (pn : Nat → Addr) (a : A_inverted),
    BJ (bdOf P w K mg base 0 N_inverted S_inverted) (gp_inverted cA pn a ++ List.replicate 3 none) (defBody S_inverted) (m a) (fun b => .rt (gx_inverted cA pn b) (kVal (tTup tInt)) b) } :=
  ⟨_, fun P w K mg base cA hG hX  pn a =>
    (bj_set 1 nd_inverted rfl (Or.inl rfl) (ej_ownI (κ := (kL (kVal tInt))) (oj_rep (τ := tInt) (pj_of_oj (κ := (kL (kVal tInt))) (oj_lst (es_cons pj_int (es_nil (τ := tInt))) (by decide))) (pj_len (sqTup tInt) rfl hG.len_ (pj_vv (tTup tInt) 0 a.1 nm_inverted rfl (Or.inl rfl) rfl))) (imm_kLP (imm_kVal imm_int))) (fun (v1 : (List Int)) => (bj_for (g := fun (s3 : (List Int)) => [sv (tTup tInt) a.1, some ⟨(kL (kVal tInt)), s3⟩, none, none]) rfl (fj_enumT (τ := tInt) 2 3 rfl nd_inverted rfl rfl (Or.inl rfl) (Or.inl rfl) rfl hG.enumerate_ (pj_vv (tTup tInt) 0 a.1 nm_inverted rfl (Or.inl rfl) rfl)) v1 (by exact .keep (.keep (.keep (.keep .nil)))) (fun x2 s3 => (bj_setIx (κ := (kVal tInt)) (xs := fun (v5 : Int) (v6 : Int) => s3) (k := fun (v6 : Int) => v6) 1 rfl (Or.inl rfl) rfl (ej_imm (τ := tInt) (pj_vv tInt 2 x2.1 nm_inverted rfl (Or.inl rfl) rfl) imm_int) (fun (v5 : Int) => (ej_imm (τ := tInt) (pj_vv tInt 3 x2.2 nm_inverted rfl (Or.inl rfl) rfl) imm_int)) (fun _ _ => rfl) (fun (v5 : Int) (v6 : Int) (v7 : (List Int)) => (bj_nil (G' := [sv (tTup tInt) a.1, some ⟨(kL (kVal tInt)), v7⟩, none, none]) (a := v7) (by exact .keep (.keep (.drop (.drop .nil)))) rfl)))) (fun s4 => (bj_wk (G' := [sv (tTup tInt) a.1, sv (tList tInt) s4, none, none]) (by exact .keep (.let (.keep (.keep .nil)))) (bj_rt (fun (v8 : (List Int)) => gx_inverted cA pn v8) (fun (v8 : (List Int)) => v8) (ej_imm (τ := (tTup tInt)) (pj_tuple (sqList tInt) rfl hG.tuple_ (pj_vv (tList tInt) 1 s4 nm_inverted rfl (Or.inl rfl) rfl)) (imm_tup imm_int)) (fun _ => rfl) (by exact fun _ => .drop (.drop (.keep (.keep .nil))))))))))⟩
abbrev m_inverted : A_inverted → Res B_inverted := d_inverted.1
abbrev sp_inverted (K : Fg) (mg : Str → Option Value) (cA : Ad) : Sp := SpOf K mg 1 (gp_inverted cA) m_inverted (gx_inverted cA) (kVal (tTup tInt)) (fun b => b)

abbrev S_inverted_1 : Stmt := topS 9
abbrev N_inverted_1 : List Str := ["names", "back", "thing", "name"]
theorem sc_inverted_1 : FnScope N_inverted_1 ["names"] (defScope S_inverted_1) := ⟨rfl, rfl, rfl, by decide +kernel, rfl, by decide +kernel, by decide +kernel⟩
theorem nm_inverted_1 : nmOk N_inverted_1 = true := by decide +kernel
theorem nd_inverted_1 : N_inverted_1.Nodup := sc_inverted_1.nd
abbrev A_inverted_1 := (List Int) × Unit
abbrev B_inverted_1 := (List Int)
abbrev gp_inverted_1 (cA : Ad) (pn : Nat → Addr) (a : A_inverted_1) : List Slot := [sv (tList tInt) a.1]
abbrev gx_inverted_1 (cA : Ad) (pn : Nat → Addr) (b : B_inverted_1) : List Slot := [none, none, none, none]
def d_inverted_1 : { m : A_inverted_1 → Res B_inverted_1 // ∀ (P : Program) (w : World) (K : Fg) (mg : Str → Option Value) (base : Heap) (cA : Ad) (hG : Gl mg) (hX : Cf K mg cA) (pn : Nat → Addr) (a : A_inverted_1),
    BJ (bdOf P w K mg base 0 N_inverted_1 S_inverted_1) (gp_inverted_1 cA pn a ++ List.replicate 3 none) (defBody S_inverted_1) (m a) (fun b => .rt (gx_inverted_1 cA pn b) (kVal (tTup tInt)) b) } :=
  ⟨_, fun P w K mg base cA hG hX  pn a =>
    (bj_set 1 nd_inverted_1 rfl (Or.inl rfl) (ej_ownI (κ := (kL (kVal tInt))) (oj_rep (τ := tInt) (pj_of_oj (κ := (kL (kVal tInt))) (oj_lst (es_cons pj_int (es_nil (τ := tInt))) (by decide))) (pj_len (sqList tInt) rfl hG.len_ (pj_vv (tList tInt) 0 a.1 nm_inverted_1 rfl (Or.inl rfl) rfl))) (imm_kLP (imm_kVal imm_int))) (fun (v1 : (List Int)) => (bj_for (g := fun (s3 : (List Int)) => [sv (tList tInt) a.1, some ⟨(kL (kVal tInt)), s3⟩, none, none]) rfl (fj_enumL (τ := tInt) 2 3 rfl nd_inverted_1 rfl rfl (Or.inl rfl) (Or.inl rfl) rfl hG.enumerate_ (pj_vv (tList tInt) 0 a.1 nm_inverted_1 rfl (Or.inl rfl) rfl)) v1 (by exact .keep (.keep (.keep (.keep .nil)))) (fun x2 s3 => (bj_setIx (κ := (kVal tInt)) (xs := fun (v5 : Int) (v6 : Int) => s3) (k := fun (v6 : Int) => v6) 1 rfl (Or.inl rfl) rfl (ej_imm (τ := tInt) (pj_vv tInt 2 x2.1 nm_inverted_1 rfl (Or.inl rfl) rfl) imm_int) (fun (v5 : Int) => (ej_imm (τ := tInt) (pj_vv tInt 3 x2.2 nm_inverted_1 rfl (Or.inl rfl) rfl) imm_int)) (fun _ _ => rfl) (fun (v5 : Int) (v6 : Int) (v7 : (List Int)) => (bj_nil (G' := [sv (tList tInt) a.1, some ⟨(kL (kVal tInt)), v7⟩, none, none]) (a := v7) (by exact .keep (.keep (.drop (.drop .nil)))) rfl)))) (fun s4 => (bj_wk (G' := [sv (tList tInt) a.1, sv (tList tInt) s4, none, none]) (by exact .keep (.let (.keep (.keep .nil)))) (bj_rt (fun (v8 : (List Int)) => gx_inverted_1 cA pn v8) (fun (v8 : (List Int)) => v8) (ej_imm (τ := (tTup tInt)) (pj_tuple (sqList tInt) rfl hG.tuple_ (pj_vv (tList tInt) 1 s4 nm_inverted_1 rfl (Or.inl rfl) rfl)) (imm_tup imm_int)) (fun _ => rfl) (by exact fun _ => .drop (.drop (.keep (.keep .nil))))))))))⟩
abbrev m_inverted_1 : A_inverted_1 → Res B_inverted_1 := d_inverted_1.1
abbrev sp_inverted_1 (K : Fg) (mg : Str → Option Value) (cA : Ad) : Sp := SpOf K mg 1 (gp_inverted_1 cA) m_inverted_1 (gx_inverted_1 cA) (kVal (tTup tInt)) (fun b => b)
abbrev TI_Merge_0 := Unit
abbrev fl_Merge_0 (cA : Ad) : TI_Merge_0 → List (Str × FV) := fun _ => []
abbrev TI_Merge_1 := TI_Merge_0 × (List (List Int))
abbrev fl_Merge_1 (cA : Ad) : TI_Merge_1 → List (Str × FV) := fun p => ("rows", ⟨(tTup (tTup tInt)), p.2⟩) :: fl_Merge_0 cA p.1
abbrev TI_Merge_2 := TI_Merge_1 × Int
abbrev fl_Merge_2 (cA : Ad) : TI_Merge_2 → List (Str × FV) := fun p => ("order", ⟨tInt, p.2⟩) :: fl_Merge_1 cA p.1
abbrev TI_Merge_3 := TI_Merge_2 × (List (List Int))
abbrev fl_Merge_3 (cA : Ad) : TI_Merge_3 → List (Str × FV) := fun p => ("_seconds", ⟨(tTup (tTup tInt)), p.2⟩) :: fl_Merge_2 cA p.1
abbrev TI_Merge_4 := TI_Merge_3 × (List (List Int))
abbrev fl_Merge_4 (cA : Ad) : TI_Merge_4 → List (Str × FV) := fun p => ("_firsts", ⟨(tTup (tTup tInt)), p.2⟩) :: fl_Merge_3 cA p.1
abbrev R_Merge := TI_Merge_4
@[reducible] def ty_Merge (cA : Ad) : Ty := tIns cA.Merge_ R_Merge (fl_Merge_4 cA)

abbrev S_Merge_init : Stmt := inClass (topS 11) 0
abbrev N_Merge_init : List Str := ["self", "rows", "table", "row", "y"]
theorem sc_Merge_init : FnScope N_Merge_init ["self", "rows"] (defScope S_Merge_init) := ⟨rfl, rfl, rfl, by decide +kernel, rfl, by decide +kernel, by decide +kernel⟩
theorem nm_Merge_init : nmOk N_Merge_init = true := by decide +kernel
theorem nd_Merge_init : N_Merge_init.Nodup := sc_Merge_init.nd
abbrev A_Merge_init := TI_Merge_0 × (List (List Int)) × Unit
abbrev B_Merge_init := R_Merge
abbrev gp_Merge_init (cA : Ad) (pn : Nat → Addr) (a : A_Merge_init) : List Slot := [some ⟨kIns (fun q => q = pn 0) cA.Merge_ TI_Merge_0 (fl_Merge_0 cA), a.1⟩, sv (tList (tList tInt)) a.2.1]
abbrev gx_Merge_init (cA : Ad) (pn : Nat → Addr) (b : B_Merge_init) : List Slot := [some ⟨kIns (fun q => q = pn 0) cA.Merge_ TI_Merge_4 (fl_Merge_4 cA), b⟩, none, none, none, none]
def d_Merge_init : { m : A_Merge_init → Res B_Merge_init // ∀ (P : Program) (w : World) (K : Fg) (mg : Str → Option Value) (base : Heap) (cA : Ad) (hG : Gl mg) (hX : Cf K mg cA) (h_check_table : FnG P w K mg base 2 "check_table" ["rows"] (sp_check_table K mg cA)) (h_inverted : FnG P w K mg base 1 "inverted" ["names"] (sp_inverted K mg cA)) (h_inverted_1 : FnG P w K mg base 1 "inverted" ["names"] (sp_inverted_1 K mg cA)) (pn : Nat → Addr) (a : A_Merge_init),
    BJ (bdOf P w K mg base 2 N_Merge_init S_Merge_init) (gp_Merge_init cA pn a ++ List.replicate 3 none) (defBody S_Merge_init) (m a) (fun b => .nx (gx_Merge_init cA pn b)) } :=
  ⟨_, fun P w K mg base cA hG hX h_check_table h_inverted h_inverted_1 pn a =>
    (bj_set 2 nd_Merge_init rfl (Or.inr rfl) (ej_imm (τ := (tTup (tTup tInt))) (pj_tuple (sqList (tTup tInt)) rfl hG.tuple_ (pj_of_oj (κ := (kL (kVal (tTup tInt)))) (oj_lc nd_Merge_init rfl (lcj (κ := (kVal (tTup tInt))) [("row", 3)] rfl (pij_list (τ := (tList tInt)) 3 nd_Merge_init rfl (Or.inl rfl) (Or.inr rfl) (pj_vv (tList (tList tInt)) 1 a.2.1 nm_Merge_init rfl (Or.inl rfl) rfl)) (by decide) (fun x1 => tsj_nil) (fun x1 => (oj_of_pj (pj_tuple (sqList tInt) rfl hG.tuple_ (pj_vv (tList tInt) 3 x1 nm_Merge_init rfl (Or.inl rfl) rfl)))))))) (imm_tup (imm_tup imm_int))) (fun (v2 : (List (List Int))) => (bj_expr (ej_imm (τ := tNone) (pj_of_oj (κ := (kVal tNone)) (oj_call (κ := (kVal tNone)) (arg := fun c => c) (fnat 2 h_check_table (Nat.le_of_ble_eq_true rfl)) rfl (aj_cons (pj_vv (tTup (tTup tInt)) 2 v2 nm_Merge_init rfl (Or.inr (Or.inl rfl)) rfl) aj_nil) (fun _ _ => rfl) (fun _ => rfl))) imm_none) (fun (v3 : Unit) => (bj_fld (τ := (tTup (tTup tInt))) (T := TI_Merge_0) (xs := fun _ => a.1) (v := fun (v4 : (List (List Int))) => v4) (flds' := fl_Merge_1 cA) 0 hX.cl_Merge hX.na_Merge_rows rfl (Or.inl rfl) rfl (ej_imm (τ := (tTup (tTup tInt))) (pj_vv (tTup (tTup tInt)) 2 v2 nm_Merge_init rfl (Or.inr (Or.inl rfl)) rfl) (imm_tup (imm_tup imm_int))) (fun _ => rfl) (fun _ => rfl) (fun _ => by show _ < 900; exact (by decide : 0 < 900)) (fun (v4 : (List (List Int))) => (bj_fld (τ := tInt) (T := TI_Merge_1) (xs := fun _ => (a.1, v4)) (v := fun (v5 : Int) => v5) (flds' := fl_Merge_2 cA) 0 hX.cl_Merge hX.na_Merge_order rfl (Or.inl rfl) rfl (ej_imm (τ := tInt) (pj_len (sqTup (tTup tInt)) rfl hG.len_ (pj_vv (tTup (tTup tInt)) 2 v2 nm_Merge_init rfl (Or.inr (Or.inl rfl)) rfl)) imm_int) (fun _ => rfl) (fun _ => rfl) (fun _ => by show _ < 900; exact (by decide : 1 < 900)) (fun (v5 : Int) => (bj_fld (τ := (tTup (tTup tInt))) (T := TI_Merge_2) (xs := fun _ => ((a.1, v4), v5)) (v := fun (v7 : (List (List Int))) => v7) (flds' := fl_Merge_3 cA) 0 hX.cl_Merge hX.na_Merge__seconds rfl (Or.inl rfl) rfl (ej_imm (τ := (tTup (tTup tInt))) (pj_tuple (sqList (tTup tInt)) rfl hG.tuple_ (pj_of_oj (κ := (kL (kVal (tTup tInt)))) (oj_lc nd_Merge_init rfl (lcj (κ := (kVal (tTup tInt))) [("row", 3)] rfl (pij_tup (τ := (tTup tInt)) 3 nd_Merge_init rfl (Or.inl rfl) (Or.inr rfl) (pj_vv (tTup (tTup tInt)) 2 v2 nm_Merge_init rfl (Or.inr (Or.inl rfl)) rfl)) (by decide) (fun x6 => tsj_nil) (fun x6 => (oj_of_pj (pj_of_oj (κ := (kVal (tTup tInt))) (oj_call (κ := (kVal (tTup tInt))) (arg := fun c => c) (fnat 1 h_inverted (Nat.le_of_ble_eq_true rfl)) rfl (aj_cons (pj_vv (tTup tInt) 3 x6 nm_Merge_init rfl (Or.inl rfl) rfl) aj_nil) (fun _ _ => rfl) (fun _ => rfl))))))))) (imm_tup (imm_tup imm_int))) (fun _ => rfl) (fun _ => rfl) (fun _ => by show _ < 900; exact (by decide : 2 < 900)) (fun (v7 : (List (List Int))) => (bj_fld (τ := (tTup (tTup tInt))) (T := TI_Merge_3) (xs := fun _ => (((a.1, v4), v5), v7)) (v := fun (v10 : (List (List Int))) => v10) (flds' := fl_Merge_4 cA) 0 hX.cl_Merge hX.na_Merge__firsts rfl (Or.inl rfl) rfl (ej_imm (τ := (tTup (tTup tInt))) (pj_tuple (sqList (tTup tInt)) rfl hG.tuple_ (pj_of_oj (κ := (kL (kVal (tTup tInt)))) (oj_lc nd_Merge_init rfl (lcj (κ := (kVal (tTup tInt))) [("y", 4)] rfl (pij_rng1 4 nd_Merge_init rfl (Or.inr rfl) (Or.inl rfl) rfl hG.range_ (pj_fld (τ := tInt) (get := (fun x => x.1.2)) hX.cl_Merge hX.na_Merge_order (fun _ => rfl) (pj_vi (C := cA.Merge_) (T := TI_Merge_3) (flds := fl_Merge_3 cA) (pin := (fun q => q = pn 0)) 0 ((((a.1, v4), v5), v7)) nm_Merge_init rfl (Or.inl rfl) rfl))) (by decide) (fun x8 => tsj_nil) (fun x8 => (oj_of_pj (pj_of_oj (κ := (kVal (tTup tInt))) (oj_call (κ := (kVal (tTup tInt))) (arg := fun c => c) (fnat 1 h_inverted_1 (Nat.le_of_ble_eq_true rfl)) rfl (aj_cons (pj_of_oj (κ := (kL (kVal tInt))) (oj_lc nd_Merge_init rfl (lcj (κ := (kVal tInt)) [("row", 3)] rfl (pij_tup (τ := (tTup tInt)) 3 nd_Merge_init rfl (Or.inl rfl) (Or.inr rfl) (pj_vv (tTup (tTup tInt)) 2 v2 nm_Merge_init rfl (Or.inr (Or.inl rfl)) rfl)) (by decide) (fun x9 => tsj_nil) (fun x9 => (oj_of_pj (pj_ixT (τ := tInt) (fun _ _ => rfl) (pj_vv (tTup tInt) 3 x9 nm_Merge_init rfl (Or.inl rfl) rfl) (pj_vv tInt 4 x8 nm_Merge_init rfl (Or.inr (Or.inl rfl)) rfl))))))) aj_nil) (fun _ _ => rfl) (fun _ => rfl))))))))) (imm_tup (imm_tup imm_int))) (fun _ => rfl) (fun _ => rfl) (fun _ => by show _ < 900; exact (by decide : 3 < 900)) (fun (v10 : (List (List Int))) => (bj_nil (G' := [some ⟨kIns (fun q => q = pn 0) cA.Merge_ TI_Merge_4 (fl_Merge_4 cA), ((((a.1, v4), v5), v7), v10)⟩, none, none, none, none]) (a := ((((a.1, v4), v5), v7), v10)) (by exact .keep (.drop (.drop (.keep (.keep .nil))))) rfl)))))))))))))⟩
abbrev m_Merge_init : A_Merge_init → Res B_Merge_init := d_Merge_init.1
abbrev sp_Merge_init (K : Fg) (mg : Str → Option Value) (cA : Ad) : Sp := SpOf K mg 2 (gp_Merge_init cA) m_Merge_init (gx_Merge_init cA) (kVal tNone) (fun _ => ())

abbrev S_alike : Stmt := topS 20
abbrev N_alike : List Str := ["found", "due", "k"]
theorem sc_alike : FnScope N_alike ["found", "due"] (defScope S_alike) := ⟨rfl, rfl, rfl, by decide +kernel, rfl, by decide +kernel, by decide +kernel⟩
theorem nm_alike : nmOk N_alike = true := by decide +kernel
theorem nd_alike : N_alike.Nodup := sc_alike.nd
abbrev A_alike := Int × Int × Unit
abbrev B_alike := Bool
abbrev gp_alike (cA : Ad) (pn : Nat → Addr) (a : A_alike) : List Slot := [sv tInt a.1, sv tInt a.2.1]
abbrev gx_alike (cA : Ad) (pn : Nat → Addr) (b : B_alike) : List Slot := [none, none, none]
def d_alike : { m : A_alike → Res B_alike // ∀ (P : Program) (w : World) (K : Fg) (mg : Str → Option Value) (base : Heap) (cA : Ad) (hG : Gl mg) (hX : Cf K mg cA) (pn : Nat → Addr) (a : A_alike),
    BJ (bdOf P w K mg base 0 N_alike S_alike) (gp_alike cA pn a ++ List.replicate 1 none) (defBody S_alike) (m a) (fun b => .rt (gx_alike cA pn b) (kVal tBool) b) } :=
  ⟨_, fun P w K mg base cA hG hX  pn a =>
    (bj_ifN (etj_const (b := false) (tj_isN0 non_int (pj_vv tInt 1 a.2.1 nm_alike rfl (Or.inl rfl) rfl))) (fun b1 => (bj_ifN (etj_const (b := false) (tj_val (pj_isi (t := "int") (T := "list") (b := false) isty_int (by decide +kernel) (by decide +kernel) rfl hG.isinstance_ rfl hG.list_ (pj_vv tInt 1 a.2.1 nm_alike rfl (Or.inl rfl) rfl)))) (fun b2 => (bj_rt (fun (v3 : Bool) => gx_alike cA pn v3) (fun (v3 : Bool) => v3) (ej_imm (τ := tBool) (pj_and (pj_isi (t := "int") (T := "int") (b := true) isty_int (by decide +kernel) (by decide +kernel) rfl hG.isinstance_ rfl hG.int_ (pj_vv tInt 0 a.1 nm_alike rfl (Or.inl rfl) rfl)) (pj_and (pj_not (pj_isi (t := "int") (T := "bool") (b := false) isty_int (by decide +kernel) (by decide +kernel) rfl hG.isinstance_ rfl hG.bool_ (pj_vv tInt 0 a.1 nm_alike rfl (Or.inl rfl) rfl))) (pj_one (pj_eqs .eq scaInt (pj_vv tInt 0 a.1 nm_alike rfl (Or.inl rfl) rfl) (pj_vv tInt 1 a.2.1 nm_alike rfl (Or.inl rfl) rfl))))) imm_bool) (fun _ => rfl) (by exact fun _ => .drop (.drop (.keep .nil))))))))⟩
abbrev m_alike : A_alike → Res B_alike := d_alike.1
abbrev sp_alike (K : Fg) (mg : Str → Option Value) (cA : Ad) : Sp := SpOf K mg 2 (gp_alike cA) m_alike (gx_alike cA) (kVal tBool) (fun b => b)

abbrev S_alike_2 : Stmt := topS 20
abbrev N_alike_2 : List Str := ["found", "due", "k"]
theorem sc_alike_2 : FnScope N_alike_2 ["found", "due"] (defScope S_alike_2) := ⟨rfl, rfl, rfl, by decide +kernel, rfl, by decide +kernel, by decide +kernel⟩
theorem nm_alike_2 : nmOk N_alike_2 = true := by decide +kernel
theorem nd_alike_2 : N_alike_2.Nodup := sc_alike_2.nd
abbrev A_alike_2 := (List Int) × (List Int) × Unit
abbrev B_alike_2 := Bool
abbrev gp_alike_2 (cA : Ad) (pn : Nat → Addr) (a : A_alike_2) : List Slot := [sv (tTup tInt) a.1, sv (tList tInt) a.2.1]
abbrev gx_alike_2 (cA : Ad) (pn : Nat → Addr) (b : B_alike_2) : List Slot := [none, none, none]
def d_alike_2 : { m : A_alike_2 → Res B_alike_2 // ∀ (P : Program) (w : World) (K : Fg) (mg : Str → Option Value) (base : Heap) (cA : Ad) (hG : Gl mg) (hX : Cf K mg cA) (h_alike : FnG P w K mg base 1 "_law_alike" ["found", "due"] (sp_alike K mg cA)) (pn : Nat → Addr) (a : A_alike_2),
    BJ (bdOf P w K mg base 1 N_alike_2 S_alike_2) (gp_alike_2 cA pn a ++ List.replicate 1 none) (defBody S_alike_2) (m a) (fun b => .rt (gx_alike_2 cA pn b) (kVal tBool) b) } :=
  ⟨_, fun P w K mg base cA hG hX h_alike pn a =>
    (bj_ifN (etj_const (b := false) (tj_isN0 non_list (pj_vv (tList tInt) 1 a.2.1 nm_alike_2 rfl (Or.inl rfl) rfl))) (fun b1 => (bj_ifYT (finz := (fun b => .rt (gx_alike_2 cA pn b) (kVal tBool) b)) (inj := (fun z => z)) (etj_const (b := true) (tj_val (pj_isi (t := "list") (T := "list") (b := true) isty_list (by decide +kernel) (by decide +kernel) rfl hG.isinstance_ rfl hG.list_ (pj_vv (tList tInt) 1 a.2.1 nm_alike_2 rfl (Or.inl rfl) rfl)))) (fun b2 => (bj_ifT (finz := (fun b => .rt (gx_alike_2 cA pn b) (kVal tBool) b)) (inj := (fun z => z)) (etj_of (tj_wj (wj_or (tj_not (tj_val (pj_isi (t := "tuple") (T := "tuple") (b := true) isty_tup (by decide +kernel) (by decide +kernel) rfl hG.isinstance_ rfl hG.tuple_ (pj_vv (tTup tInt) 0 a.1 nm_alike_2 rfl (Or.inl rfl) rfl)))) (wj_or1 (tj_eqs .ne scaInt (pj_len (sqTup tInt) rfl hG.len_ (pj_vv (tTup tInt) 0 a.1 nm_alike_2 rfl (Or.inl rfl) rfl)) (pj_len (sqList tInt) rfl hG.len_ (pj_vv (tList tInt) 1 a.2.1 nm_alike_2 rfl (Or.inl rfl) rfl))))))) (fun (b3 : Bool) => (bj_rt (fun (v4 : Bool) => gx_alike_2 cA pn v4) (fun (v4 : Bool) => v4) (ej_imm (τ := tBool) pj_bl imm_bool) (fun _ => rfl) (by exact fun _ => .drop (.drop (.keep .nil))))) (fun _ => rfl) (fun _ => rfl) (fun (b3 : Bool) => (bj_forR (ζ := Bool) (g := fun (s6 : Unit) => [sv (tTup tInt) a.1, sv (tList tInt) a.2.1, none]) (finz := (fun b => .rt (gx_alike_2 cA pn b) (kVal tBool) b)) (inj := fun z => z) rfl (fj_rng1 2 nd_alike_2 rfl (Or.inl rfl) rfl hG.range_ (pj_len (sqList tInt) rfl hG.len_ (pj_vv (tList tInt) 1 a.2.1 nm_alike_2 rfl (Or.inl rfl) rfl))) (()) (by exact .keep (.keep (.keep .nil))) (fun x5 s6 => (bj_ifT (finz := (fun b => .rt (gx_alike_2 cA pn b) (kVal tBool) b)) (inj := (fun z => Step.rt z)) (etj_of (tj_not (tj_val (pj_of_oj (κ := (kVal tBool)) (oj_call (κ := (kVal tBool)) (arg := fun c => c) (fnat 1 h_alike (Nat.le_of_ble_eq_true rfl)) rfl (aj_cons (pj_ixT (τ := tInt) (fun _ _ => rfl) (pj_vv (tTup tInt) 0 a.1 nm_alike_2 rfl (Or.inl rfl) rfl) (pj_vv tInt 2 x5 nm_alike_2 rfl (Or.inl rfl) rfl)) (aj_cons (pj_ixL (τ := tInt) (fun _ _ => rfl) (pj_vv (tList tInt) 1 a.2.1 nm_alike_2 rfl (Or.inl rfl) rfl) (pj_vv tInt 2 x5 nm_alike_2 rfl (Or.inl rfl) rfl)) aj_nil)) (fun _ _ => rfl) (fun _ => rfl)))))) (fun (b9 : Bool) => (bj_rt (fun (v10 : Bool) => gx_alike_2 cA pn v10) (fun (v10 : Bool) => v10) (ej_imm (τ := tBool) pj_bl imm_bool) (fun _ => rfl) (by exact fun _ => .drop (.drop (.drop .nil))))) (fun _ => rfl) (fun _ => rfl) (fun (b9 : Bool) => (bj_nil (G' := [sv (tTup tInt) a.1, sv (tList tInt) a.2.1, none]) (a := Step.nx (())) (by exact .keep (.keep (.drop .nil))) rfl)))) (fun _ => ⟨_, _, _, rfl⟩) (fun _ => rfl) (fun s7 => (bj_rt (fun (v11 : Bool) => gx_alike_2 cA pn v11) (fun (v11 : Bool) => v11) (ej_imm (τ := tBool) pj_bl imm_bool) (fun _ => rfl) (by exact fun _ => .drop (.drop (.keep .nil))))))))) (fun _ => rfl) (fun _ => rfl))))⟩
abbrev m_alike_2 : A_alike_2 → Res B_alike_2 := d_alike_2.1
abbrev sp_alike_2 (K : Fg) (mg : Str → Option Value) (cA : Ad) : Sp := SpOf K mg 2 (gp_alike_2 cA) m_alike_2 (gx_alike_2 cA) (kVal tBool) (fun b => b)

abbrev S_alike_1 : Stmt := topS 20
abbrev N_alike_1 : List Str := ["found", "due", "k"]
theorem sc_alike_1 : FnScope N_alike_1 ["found", "due"] (defScope S_alike_1) := ⟨rfl, rfl, rfl, by decide +kernel, rfl, by decide +kernel, by decide +kernel⟩
theorem nm_alike_1 : nmOk N_alike_1 = true := by decide +kernel
theorem nd_alike_1 : N_alike_1.Nodup := sc_alike_1.nd
abbrev A_alike_1 := (List (List Int)) × (List (List Int)) × Unit
abbrev B_alike_1 := Bool
abbrev gp_alike_1 (cA : Ad) (pn : Nat → Addr) (a : A_alike_1) : List Slot := [sv (tTup (tTup tInt)) a.1, sv (tList (tList tInt)) a.2.1]
abbrev gx_alike_1 (cA : Ad) (pn : Nat → Addr) (b : B_alike_1) : List Slot := [none, none, none]
def d_alike_1 : { m : A_alike_1 → Res B_alike_1 // ∀ (P : Program) (w : World) (K : Fg) (mg : Str → Option Value) (base : Heap) (cA : Ad) (hG : Gl mg) (hX : Cf K mg cA) (h_alike_2 : FnG P w K mg base 2 "_law_alike" ["found", "due"] (sp_alike_2 K mg cA)) (pn : Nat → Addr) (a : A_alike_1),
    BJ (bdOf P w K mg base 2 N_alike_1 S_alike_1) (gp_alike_1 cA pn a ++ List.replicate 1 none) (defBody S_alike_1) (m a) (fun b => .rt (gx_alike_1 cA pn b) (kVal tBool) b) } :=
  ⟨_, fun P w K mg base cA hG hX h_alike_2 pn a =>
    (bj_ifN (etj_const (b := false) (tj_isN0 non_list (pj_vv (tList (tList tInt)) 1 a.2.1 nm_alike_1 rfl (Or.inl rfl) rfl))) (fun b1 => (bj_ifYT (finz := (fun b => .rt (gx_alike_1 cA pn b) (kVal tBool) b)) (inj := (fun z => z)) (etj_const (b := true) (tj_val (pj_isi (t := "list") (T := "list") (b := true) isty_list (by decide +kernel) (by decide +kernel) rfl hG.isinstance_ rfl hG.list_ (pj_vv (tList (tList tInt)) 1 a.2.1 nm_alike_1 rfl (Or.inl rfl) rfl)))) (fun b2 => (bj_ifT (finz := (fun b => .rt (gx_alike_1 cA pn b) (kVal tBool) b)) (inj := (fun z => z)) (etj_of (tj_wj (wj_or (tj_not (tj_val (pj_isi (t := "tuple") (T := "tuple") (b := true) isty_tup (by decide +kernel) (by decide +kernel) rfl hG.isinstance_ rfl hG.tuple_ (pj_vv (tTup (tTup tInt)) 0 a.1 nm_alike_1 rfl (Or.inl rfl) rfl)))) (wj_or1 (tj_eqs .ne scaInt (pj_len (sqTup (tTup tInt)) rfl hG.len_ (pj_vv (tTup (tTup tInt)) 0 a.1 nm_alike_1 rfl (Or.inl rfl) rfl)) (pj_len (sqList (tList tInt)) rfl hG.len_ (pj_vv (tList (tList tInt)) 1 a.2.1 nm_alike_1 rfl (Or.inl rfl) rfl))))))) (fun (b3 : Bool) => (bj_rt (fun (v4 : Bool) => gx_alike_1 cA pn v4) (fun (v4 : Bool) => v4) (ej_imm (τ := tBool) pj_bl imm_bool) (fun _ => rfl) (by exact fun _ => .drop (.drop (.keep .nil))))) (fun _ => rfl) (fun _ => rfl) (fun (b3 : Bool) => (bj_forR (ζ := Bool) (g := fun (s6 : Unit) => [sv (tTup (tTup tInt)) a.1, sv (tList (tList tInt)) a.2.1, none]) (finz := (fun b => .rt (gx_alike_1 cA pn b) (kVal tBool) b)) (inj := fun z => z) rfl (fj_rng1 2 nd_alike_1 rfl (Or.inl rfl) rfl hG.range_ (pj_len (sqList (tList tInt)) rfl hG.len_ (pj_vv (tList (tList tInt)) 1 a.2.1 nm_alike_1 rfl (Or.inl rfl) rfl))) (()) (by exact .keep (.keep (.keep .nil))) (fun x5 s6 => (bj_ifT (finz := (fun b => .rt (gx_alike_1 cA pn b) (kVal tBool) b)) (inj := (fun z => Step.rt z)) (etj_of (tj_not (tj_val (pj_of_oj (κ := (kVal tBool)) (oj_call (κ := (kVal tBool)) (arg := fun c => c) (fnat 2 h_alike_2 (Nat.le_of_ble_eq_true rfl)) rfl (aj_cons (pj_ixT (τ := (tTup tInt)) (fun _ _ => rfl) (pj_vv (tTup (tTup tInt)) 0 a.1 nm_alike_1 rfl (Or.inl rfl) rfl) (pj_vv tInt 2 x5 nm_alike_1 rfl (Or.inl rfl) rfl)) (aj_cons (pj_ixL (τ := (tList tInt)) (fun _ _ => rfl) (pj_vv (tList (tList tInt)) 1 a.2.1 nm_alike_1 rfl (Or.inl rfl) rfl) (pj_vv tInt 2 x5 nm_alike_1 rfl (Or.inl rfl) rfl)) aj_nil)) (fun _ _ => rfl) (fun _ => rfl)))))) (fun (b9 : Bool) => (bj_rt (fun (v10 : Bool) => gx_alike_1 cA pn v10) (fun (v10 : Bool) => v10) (ej_imm (τ := tBool) pj_bl imm_bool) (fun _ => rfl) (by exact fun _ => .drop (.drop (.drop .nil))))) (fun _ => rfl) (fun _ => rfl) (fun (b9 : Bool) => (bj_nil (G' := [sv (tTup (tTup tInt)) a.1, sv (tList (tList tInt)) a.2.1, none]) (a := Step.nx (())) (by exact .keep (.keep (.drop .nil))) rfl)))) (fun _ => ⟨_, _, _, rfl⟩) (fun _ => rfl) (fun s7 => (bj_rt (fun (v11 : Bool) => gx_alike_1 cA pn v11) (fun (v11 : Bool) => v11) (ej_imm (τ := tBool) pj_bl imm_bool) (fun _ => rfl) (by exact fun _ => .drop (.drop (.keep .nil))))))))) (fun _ => rfl) (fun _ => rfl))))⟩
abbrev m_alike_1 : A_alike_1 → Res B_alike_1 := d_alike_1.1
abbrev sp_alike_1 (K : Fg) (mg : Str → Option Value) (cA : Ad) : Sp := SpOf K mg 2 (gp_alike_1 cA) m_alike_1 (gx_alike_1 cA) (kVal tBool) (fun b => b)

abbrev S_Merge_triples : Stmt := inClass (topS 11) 5
abbrev N_Merge_triples : List Str := ["self", "x", "row", "y", "z"]
theorem sc_Merge_triples : FnScope N_Merge_triples ["self"] (defScope S_Merge_triples) := ⟨rfl, rfl, rfl, by decide +kernel, rfl, by decide +kernel, by decide +kernel⟩
theorem nm_Merge_triples : nmOk N_Merge_triples = true := by decide +kernel
theorem nd_Merge_triples : N_Merge_triples.Nodup := sc_Merge_triples.nd
abbrev A_Merge_triples := R_Merge × Unit
abbrev B_Merge_triples := (List (Int × Int × Int))
abbrev gp_Merge_triples (cA : Ad) (pn : Nat → Addr) (a : A_Merge_triples) : List Slot := [sv (ty_Merge cA) a.1]
abbrev gx_Merge_triples (cA : Ad) (pn : Nat → Addr) (b : B_Merge_triples) : List Slot := [none, none, none, none, none]
def d_Merge_triples : { m : A_Merge_triples → Res B_Merge_triples // ∀ (P : Program) (w : World) (K : Fg) (mg : Str → Option Value) (base : Heap) (cA : Ad) (hG : Gl mg) (hX : Cf K mg cA) (pn : Nat → Addr) (a : A_Merge_triples),
    BJ (bdOf P w K mg base 0 N_Merge_triples S_Merge_triples) (gp_Merge_triples cA pn a ++ List.replicate 4 none) (defBody S_Merge_triples) (m a) (fun b => .rt (gx_Merge_triples cA pn b) (kVal (tTup (tT3 tInt tInt tInt))) b) } :=
  ⟨_, fun P w K mg base cA hG hX  pn a =>
    (bj_rt (fun (v3 : (List (Int × Int × Int))) => gx_Merge_triples cA pn v3) (fun (v3 : (List (Int × Int × Int))) => v3) (ej_imm (τ := (tTup (tT3 tInt tInt tInt))) (pj_tuple (sqList (tT3 tInt tInt tInt)) rfl hG.tuple_ (pj_of_oj (κ := (kL (kVal (tT3 tInt tInt tInt)))) (oj_lc2 nd_Merge_triples rfl (lcj2 (κ := (kVal (tT3 tInt tInt tInt))) [("x", 1), ("row", 2), ("y", 3), ("z", 4)] [3, 4] rfl (pij_enumT (τ := (tTup tInt)) 1 2 rfl nd_Merge_triples rfl rfl (Or.inl rfl) (Or.inl rfl) (Or.inr rfl) (Or.inr rfl) rfl hG.enumerate_ (pj_fld (τ := (tTup (tTup tInt))) (get := (fun x => x.1.1.1.2)) hX.cl_Merge hX.na_Merge_rows (fun _ => rfl) (pj_vc (C := cA.Merge_) (T := R_Merge) (flds := fl_Merge_4 cA) 0 a.1 nm_Merge_triples rfl (Or.inl rfl) rfl))) (by decide) (by decide) (fun x1 => (pij_enumT (τ := tInt) 3 4 rfl nd_Merge_triples rfl rfl (Or.inl rfl) (Or.inl rfl) (Or.inr rfl) (Or.inr rfl) rfl hG.enumerate_ (pj_vv (tTup tInt) 2 x1.2 nm_Merge_triples rfl (Or.inl rfl) rfl))) (by decide) (fun x1 y2 => (oj_of_pj (pj_tup3 (pj_vv tInt 1 x1.1 nm_Merge_triples rfl (Or.inl rfl) rfl) (pj_vv tInt 3 y2.1 nm_Merge_triples rfl (Or.inl rfl) rfl) (pj_vv tInt 4 y2.2 nm_Merge_triples rfl (Or.inl rfl) rfl)))))))) (imm_tup (imm_t3 imm_int imm_int imm_int))) (fun _ => rfl) (by exact fun _ => .drop (.keep (.keep (.keep (.keep .nil))))))⟩
abbrev m_Merge_triples : A_Merge_triples → Res B_Merge_triples := d_Merge_triples.1
abbrev sp_Merge_triples (K : Fg) (mg : Str → Option Value) (cA : Ad) : Sp := SpOf K mg 1 (gp_Merge_triples cA) m_Merge_triples (gx_Merge_triples cA) (kVal (tTup (tT3 tInt tInt tInt))) (fun b => b)

abbrev S_triples : Stmt := topS 23
abbrev N_triples : List Str := ["rows", "triples", "x", "y"]
theorem sc_triples : FnScope N_triples ["rows"] (defScope S_triples) := ⟨rfl, rfl, rfl, by decide +kernel, rfl, by decide +kernel, by decide +kernel⟩
theorem nm_triples : nmOk N_triples = true := by decide +kernel
theorem nd_triples : N_triples.Nodup := sc_triples.nd
abbrev A_triples := (List (List Int)) × Unit
abbrev B_triples := (List (List Int))
abbrev gp_triples (cA : Ad) (pn : Nat → Addr) (a : A_triples) : List Slot := [sv (tList (tList tInt)) a.1]
abbrev gx_triples (cA : Ad) (pn : Nat → Addr) (b : B_triples) : List Slot := [none, none, none, none]
def d_triples : { m : A_triples → Res B_triples // ∀ (P : Program) (w : World) (K : Fg) (mg : Str → Option Value) (base : Heap) (cA : Ad) (hG : Gl mg) (hX : Cf K mg cA) (pn : Nat → Addr) (a : A_triples),
    BJ (bdOf P w K mg base 0 N_triples S_triples) (gp_triples cA pn a ++ List.replicate 3 none) (defBody S_triples) (m a) (fun b => .rt (gx_triples cA pn b) (kL (kVal (tList tInt))) b) } :=
  ⟨_, fun P w K mg base cA hG hX  pn a =>
    (bj_set 1 nd_triples rfl (Or.inl rfl) (ej_own (κ := (kL (kVal (tList tInt)))) (oj_lst (es_nil (τ := (tList tInt))) (by decide))) (fun (v1 : (List (List Int))) => (bj_for (g := fun (s3 : (List (List Int))) => [sv (tList (tList tInt)) a.1, some ⟨(kL (kVal (tList tInt))), s3⟩, none, none]) rfl (fj_rng1 2 nd_triples rfl (Or.inl rfl) rfl hG.range_ (pj_len (sqList (tList tInt)) rfl hG.len_ (pj_vv (tList (tList tInt)) 0 a.1 nm_triples rfl (Or.inl rfl) rfl))) v1 (by exact .keep (.keep (.keep (.keep .nil)))) (fun x2 s3 => (bj_for (g := fun (s6 : (List (List Int))) => [sv (tList (tList tInt)) a.1, some ⟨(kL (kVal (tList tInt))), s6⟩, sv tInt x2, none]) rfl (fj_rng1 3 nd_triples rfl (Or.inl rfl) rfl hG.range_ (pj_len (sqList (tList tInt)) rfl hG.len_ (pj_vv (tList (tList tInt)) 0 a.1 nm_triples rfl (Or.inl rfl) rfl))) s3 (by exact .keep (.keep (.keep (.keep .nil)))) (fun x5 s6 => (bj_expr (ej_append (κ := (kVal (tList tInt))) (xs := fun (r8 : (List Int)) => s6) 1 rfl (Or.inl rfl) rfl (ej_let (κ := (kL (kVal tInt))) (ej_ownI (κ := (kL (kVal tInt))) (oj_lst (es_cons (pj_vv tInt 2 x2 nm_triples rfl (Or.inl rfl) rfl) (es_cons (pj_vv tInt 3 x5 nm_triples rfl (Or.inl rfl) rfl) (es_cons (pj_ixL (τ := tInt) (fun _ _ => rfl) (pj_ixL (τ := (tList tInt)) (fun _ _ => rfl) (pj_vv (tList (tList tInt)) 0 a.1 nm_triples rfl (Or.inl rfl) rfl) (pj_vv tInt 2 x2 nm_triples rfl (Or.inl rfl) rfl)) (pj_vv tInt 3 x5 nm_triples rfl (Or.inl rfl) rfl)) (es_nil (τ := tInt))))) (by decide)) (imm_kLP (imm_kVal imm_int)))) (fun _ => rfl)) (fun (v9 : (((List Int)) × (List (List Int)))) => (bj_nil (G' := [sv (tList (tList tInt)) a.1, some ⟨(kL (kVal (tList tInt))), v9.2⟩, sv tInt x2, none]) (a := v9.2) (by exact .keep (.keep (.keep (.drop .nil)))) rfl)))) (fun s7 => (bj_nil (G' := [sv (tList (tList tInt)) a.1, some ⟨(kL (kVal (tList tInt))), s7⟩, none, none]) (a := s7) (by exact .keep (.keep (.drop (.keep .nil)))) rfl)))) (fun s4 => (bj_rt (fun (v10 : Unit) => gx_triples cA pn s4) (fun (v10 : Unit) => s4) (ej_move (κ := (kL (kVal (tList tInt)))) 1 (x := s4) rfl (Or.inl rfl) rfl) (fun _ => rfl) (by exact fun _ => .drop (.keep (.keep (.keep .nil)))))))))⟩
abbrev m_triples : A_triples → Res B_triples := d_triples.1
abbrev sp_triples (K : Fg) (mg : Str → Option Value) (cA : Ad) : Sp := SpOf K mg 1 (gp_triples cA) m_triples (gx_triples cA) (kL (kVal (tList tInt))) (fun b => b)

abbrev S_alike_4 : Stmt := topS 20
abbrev N_alike_4 : List Str := ["found", "due", "k"]
theorem sc_alike_4 : FnScope N_alike_4 ["found", "due"] (defScope S_alike_4) := ⟨rfl, rfl, rfl, by decide +kernel, rfl, by decide +kernel, by decide +kernel⟩
theorem nm_alike_4 : nmOk N_alike_4 = true := by decide +kernel
theorem nd_alike_4 : N_alike_4.Nodup := sc_alike_4.nd
abbrev A_alike_4 := (Int × Int × Int) × (List Int) × Unit
abbrev B_alike_4 := Bool
abbrev gp_alike_4 (cA : Ad) (pn : Nat → Addr) (a : A_alike_4) : List Slot := [sv (tT3 tInt tInt tInt) a.1, sv (tList tInt) a.2.1]
abbrev gx_alike_4 (cA : Ad) (pn : Nat → Addr) (b : B_alike_4) : List Slot := [none, none, none]
def d_alike_4 : { m : A_alike_4 → Res B_alike_4 // ∀ (P : Program) (w : World) (K : Fg) (mg : Str → Option Value) (base : Heap) (cA : Ad) (hG : Gl mg) (hX : Cf K mg cA) (h_alike : FnG P w K mg base 1 "_law_alike" ["found", "due"] (sp_alike K mg cA)) (pn : Nat → Addr) (a : A_alike_4),
    BJ (bdOf P w K mg base 1 N_alike_4 S_alike_4) (gp_alike_4 cA pn a ++ List.replicate 1 none) (defBody S_alike_4) (m a) (fun b => .rt (gx_alike_4 cA pn b) (kVal tBool) b) } :=
  ⟨_, fun P w K mg base cA hG hX h_alike pn a =>
    (bj_ifN (etj_const (b := false) (tj_isN0 non_list (pj_vv (tList tInt) 1 a.2.1 nm_alike_4 rfl (Or.inl rfl) rfl))) (fun b1 => (bj_ifYT (finz := (fun b => .rt (gx_alike_4 cA pn b) (kVal tBool) b)) (inj := (fun z => z)) (etj_const (b := true) (tj_val (pj_isi (t := "list") (T := "list") (b := true) isty_list (by decide +kernel) (by decide +kernel) rfl hG.isinstance_ rfl hG.list_ (pj_vv (tList tInt) 1 a.2.1 nm_alike_4 rfl (Or.inl rfl) rfl)))) (fun b2 => (bj_ifT (finz := (fun b => .rt (gx_alike_4 cA pn b) (kVal tBool) b)) (inj := (fun z => z)) (etj_of (tj_wj (wj_or (tj_not (tj_val (pj_isi (t := "tuple") (T := "tuple") (b := true) isty_t3 (by decide +kernel) (by decide +kernel) rfl hG.isinstance_ rfl hG.tuple_ (pj_vv (tT3 tInt tInt tInt) 0 a.1 nm_alike_4 rfl (Or.inl rfl) rfl)))) (wj_or1 (tj_eqs .ne scaInt (pj_len (sqTup tInt) rfl hG.len_ (pj_t3L (pj_vv (tT3 tInt tInt tInt) 0 a.1 nm_alike_4 rfl (Or.inl rfl) rfl))) (pj_len (sqList tInt) rfl hG.len_ (pj_vv (tList tInt) 1 a.2.1 nm_alike_4 rfl (Or.inl rfl) rfl))))))) (fun (b3 : Bool) => (bj_rt (fun (v4 : Bool) => gx_alike_4 cA pn v4) (fun (v4 : Bool) => v4) (ej_imm (τ := tBool) pj_bl imm_bool) (fun _ => rfl) (by exact fun _ => .drop (.drop (.keep .nil))))) (fun _ => rfl) (fun _ => rfl) (fun (b3 : Bool) => (bj_forR (ζ := Bool) (g := fun (s6 : Unit) => [sv (tT3 tInt tInt tInt) a.1, sv (tList tInt) a.2.1, none]) (finz := (fun b => .rt (gx_alike_4 cA pn b) (kVal tBool) b)) (inj := fun z => z) rfl (fj_rng1 2 nd_alike_4 rfl (Or.inl rfl) rfl hG.range_ (pj_len (sqList tInt) rfl hG.len_ (pj_vv (tList tInt) 1 a.2.1 nm_alike_4 rfl (Or.inl rfl) rfl))) (()) (by exact .keep (.keep (.keep .nil))) (fun x5 s6 => (bj_ifT (finz := (fun b => .rt (gx_alike_4 cA pn b) (kVal tBool) b)) (inj := (fun z => Step.rt z)) (etj_of (tj_not (tj_val (pj_of_oj (κ := (kVal tBool)) (oj_call (κ := (kVal tBool)) (arg := fun c => c) (fnat 1 h_alike (Nat.le_of_ble_eq_true rfl)) rfl (aj_cons (pj_ixT (τ := tInt) (fun _ _ => rfl) (pj_t3L (pj_vv (tT3 tInt tInt tInt) 0 a.1 nm_alike_4 rfl (Or.inl rfl) rfl)) (pj_vv tInt 2 x5 nm_alike_4 rfl (Or.inl rfl) rfl)) (aj_cons (pj_ixL (τ := tInt) (fun _ _ => rfl) (pj_vv (tList tInt) 1 a.2.1 nm_alike_4 rfl (Or.inl rfl) rfl) (pj_vv tInt 2 x5 nm_alike_4 rfl (Or.inl rfl) rfl)) aj_nil)) (fun _ _ => rfl) (fun _ => rfl)))))) (fun (b9 : Bool) => (bj_rt (fun (v10 : Bool) => gx_alike_4 cA pn v10) (fun (v10 : Bool) => v10) (ej_imm (τ := tBool) pj_bl imm_bool) (fun _ => rfl) (by exact fun _ => .drop (.drop (.drop .nil))))) (fun _ => rfl) (fun _ => rfl) (fun (b9 : Bool) => (bj_nil (G' := [sv (tT3 tInt tInt tInt) a.1, sv (tList tInt) a.2.1, none]) (a := Step.nx (())) (by exact .keep (.keep (.drop .nil))) rfl)))) (fun _ => ⟨_, _, _, rfl⟩) (fun _ => rfl) (fun s7 => (bj_rt (fun (v11 : Bool) => gx_alike_4 cA pn v11) (fun (v11 : Bool) => v11) (ej_imm (τ := tBool) pj_bl imm_bool) (fun _ => rfl) (by exact fun _ => .drop (.drop (.keep .nil))))))))) (fun _ => rfl) (fun _ => rfl))))⟩
abbrev m_alike_4 : A_alike_4 → Res B_alike_4 := d_alike_4.1
abbrev sp_alike_4 (K : Fg) (mg : Str → Option Value) (cA : Ad) : Sp := SpOf K mg 2 (gp_alike_4 cA) m_alike_4 (gx_alike_4 cA) (kVal tBool) (fun b => b)

abbrev S_alike_3 : Stmt := topS 20
abbrev N_alike_3 : List Str := ["found", "due", "k"]
theorem sc_alike_3 : FnScope N_alike_3 ["found", "due"] (defScope S_alike_3) := ⟨rfl, rfl, rfl, by decide +kernel, rfl, by decide +kernel, by decide +kernel⟩
theorem nm_alike_3 : nmOk N_alike_3 = true := by decide +kernel
theorem nd_alike_3 : N_alike_3.Nodup := sc_alike_3.nd
abbrev A_alike_3 := (List (Int × Int × Int)) × (List (List Int)) × Unit
abbrev B_alike_3 := Bool
abbrev gp_alike_3 (cA : Ad) (pn : Nat → Addr) (a : A_alike_3) : List Slot := [sv (tTup (tT3 tInt tInt tInt)) a.1, sv (tList (tList tInt)) a.2.1]
abbrev gx_alike_3 (cA : Ad) (pn : Nat → Addr) (b : B_alike_3) : List Slot := [none, none, none]
def d_alike_3 : { m : A_alike_3 → Res B_alike_3 // ∀ (P : Program) (w : World) (K : Fg) (mg : Str → Option Value) (base : Heap) (cA : Ad) (hG : Gl mg) (hX : Cf K mg cA) (h_alike_4 : FnG P w K mg base 2 "_law_alike" ["found", "due"] (sp_alike_4 K mg cA)) (pn : Nat → Addr) (a : A_alike_3),
    BJ (bdOf P w K mg base 2 N_alike_3 S_alike_3) (gp_alike_3 cA pn a ++ List.replicate 1 none) (defBody S_alike_3) (m a) (fun b => .rt (gx_alike_3 cA pn b) (kVal tBool) b) } :=
  ⟨_, fun P w K mg base cA hG hX h_alike_4 pn a =>
    (bj_ifN (etj_const (b := false) (tj_isN0 non_list (pj_vv (tList (tList tInt)) 1 a.2.1 nm_alike_3 rfl (Or.inl rfl) rfl))) (fun b1 => (bj_ifYT (finz := (fun b => .rt (gx_alike_3 cA pn b) (kVal tBool) b)) (inj := (fun z => z)) (etj_const (b := true) (tj_val (pj_isi (t := "list") (T := "list") (b := true) isty_list (by decide +kernel) (by decide +kernel) rfl hG.isinstance_ rfl hG.list_ (pj_vv (tList (tList tInt)) 1 a.2.1 nm_alike_3 rfl (Or.inl rfl) rfl)))) (fun b2 => (bj_ifT (finz := (fun b => .rt (gx_alike_3 cA pn b) (kVal tBool) b)) (inj := (fun z => z)) (etj_of (tj_wj (wj_or (tj_not (tj_val (pj_isi (t := "tuple") (T := "tuple") (b := true) isty_tup (by decide +kernel) (by decide +kernel) rfl hG.isinstance_ rfl hG.tuple_ (pj_vv (tTup (tT3 tInt tInt tInt)) 0 a.1 nm_alike_3 rfl (Or.inl rfl) rfl)))) (wj_or1 (tj_eqs .ne scaInt (pj_len (sqTup (tT3 tInt tInt tInt)) rfl hG.len_ (pj_vv (tTup (tT3 tInt tInt tInt)) 0 a.1 nm_alike_3 rfl (Or.inl rfl) rfl)) (pj_len (sqList (tList tInt)) rfl hG.len_ (pj_vv (tList (tList tInt)) 1 a.2.1 nm_alike_3 rfl (Or.inl rfl) rfl))))))) (fun (b3 : Bool) => (bj_rt (fun (v4 : Bool) => gx_alike_3 cA pn v4) (fun (v4 : Bool) => v4) (ej_imm (τ := tBool) pj_bl imm_bool) (fun _ => rfl) (by exact fun _ => .drop (.drop (.keep .nil))))) (fun _ => rfl) (fun _ => rfl) (fun (b3 : Bool) => (bj_forR (ζ := Bool) (g := fun (s6 : Unit) => [sv (tTup (tT3 tInt tInt tInt)) a.1, sv (tList (tList tInt)) a.2.1, none]) (finz := (fun b => .rt (gx_alike_3 cA pn b) (kVal tBool) b)) (inj := fun z => z) rfl (fj_rng1 2 nd_alike_3 rfl (Or.inl rfl) rfl hG.range_ (pj_len (sqList (tList tInt)) rfl hG.len_ (pj_vv (tList (tList tInt)) 1 a.2.1 nm_alike_3 rfl (Or.inl rfl) rfl))) (()) (by exact .keep (.keep (.keep .nil))) (fun x5 s6 => (bj_ifT (finz := (fun b => .rt (gx_alike_3 cA pn b) (kVal tBool) b)) (inj := (fun z => Step.rt z)) (etj_of (tj_not (tj_val (pj_of_oj (κ := (kVal tBool)) (oj_call (κ := (kVal tBool)) (arg := fun c => c) (fnat 2 h_alike_4 (Nat.le_of_ble_eq_true rfl)) rfl (aj_cons (pj_ixT (τ := (tT3 tInt tInt tInt)) (fun _ _ => rfl) (pj_vv (tTup (tT3 tInt tInt tInt)) 0 a.1 nm_alike_3 rfl (Or.inl rfl) rfl) (pj_vv tInt 2 x5 nm_alike_3 rfl (Or.inl rfl) rfl)) (aj_cons (pj_ixL (τ := (tList tInt)) (fun _ _ => rfl) (pj_vv (tList (tList tInt)) 1 a.2.1 nm_alike_3 rfl (Or.inl rfl) rfl) (pj_vv tInt 2 x5 nm_alike_3 rfl (Or.inl rfl) rfl)) aj_nil)) (fun _ _ => rfl) (fun _ => rfl)))))) (fun (b9 : Bool) => (bj_rt (fun (v10 : Bool) => gx_alike_3 cA pn v10) (fun (v10 : Bool) => v10) (ej_imm (τ := tBool) pj_bl imm_bool) (fun _ => rfl) (by exact fun _ => .drop (.drop (.drop .nil))))) (fun _ => rfl) (fun _ => rfl) (fun (b9 : Bool) => (bj_nil (G' := [sv (tTup (tT3 tInt tInt tInt)) a.1, sv (tList (tList tInt)) a.2.1, none]) (a := Step.nx (())) (by exact .keep (.keep (.drop .nil))) rfl)))) (fun _ => ⟨_, _, _, rfl⟩) (fun _ => rfl) (fun s7 => (bj_rt (fun (v11 : Bool) => gx_alike_3 cA pn v11) (fun (v11 : Bool) => v11) (ej_imm (τ := tBool) pj_bl imm_bool) (fun _ => rfl) (by exact fun _ => .drop (.drop (.keep .nil))))))))) (fun _ => rfl) (fun _ => rfl))))⟩
abbrev m_alike_3 : A_alike_3 → Res B_alike_3 := d_alike_3.1
abbrev sp_alike_3 (K : Fg) (mg : Str → Option Value) (cA : Ad) : Sp := SpOf K mg 2 (gp_alike_3 cA) m_alike_3 (gx_alike_3 cA) (kVal tBool) (fun b => b)

abbrev S_Merge_table : Stmt := inClass (topS 11) 1
abbrev N_Merge_table : List Str := ["self", "port"]
theorem sc_Merge_table : FnScope N_Merge_table ["self", "port"] (defScope S_Merge_table) := ⟨rfl, rfl, rfl, by decide +kernel, rfl, by decide +kernel, by decide +kernel⟩
theorem nm_Merge_table : nmOk N_Merge_table = true := by decide +kernel
theorem nd_Merge_table : N_Merge_table.Nodup := sc_Merge_table.nd
abbrev A_Merge_table := R_Merge × Int × Unit
abbrev B_Merge_table := (List (List Int))
abbrev gp_Merge_table (cA : Ad) (pn : Nat → Addr) (a : A_Merge_table) : List Slot := [sv (ty_Merge cA) a.1, sv tInt a.2.1]
abbrev gx_Merge_table (cA : Ad) (pn : Nat → Addr) (b : B_Merge_table) : List Slot := [none, none]
def d_Merge_table : { m : A_Merge_table → Res B_Merge_table // ∀ (P : Program) (w : World) (K : Fg) (mg : Str → Option Value) (base : Heap) (cA : Ad) (hG : Gl mg) (hX : Cf K mg cA) (pn : Nat → Addr) (a : A_Merge_table),
    BJ (bdOf P w K mg base 0 N_Merge_table S_Merge_table) (gp_Merge_table cA pn a ++ List.replicate 0 none) (defBody S_Merge_table) (m a) (fun b => .rt (gx_Merge_table cA pn b) (kVal (tTup (tTup tInt))) b) } :=
  ⟨_, fun P w K mg base cA hG hX  pn a =>
    (bj_rt (fun (v1 : (List (List Int))) => gx_Merge_table cA pn v1) (fun (v1 : (List (List Int))) => v1) (ej_imm (τ := (tTup (tTup tInt))) (pj_ixT (τ := (tTup (tTup tInt))) (fun _ _ => rfl) (pj_t3L (pj_tup3 (pj_fld (τ := (tTup (tTup tInt))) (get := (fun x => x.2)) hX.cl_Merge hX.na_Merge__firsts (fun _ => rfl) (pj_vc (C := cA.Merge_) (T := R_Merge) (flds := fl_Merge_4 cA) 0 a.1 nm_Merge_table rfl (Or.inl rfl) rfl)) (pj_fld (τ := (tTup (tTup tInt))) (get := (fun x => x.1.2)) hX.cl_Merge hX.na_Merge__seconds (fun _ => rfl) (pj_vc (C := cA.Merge_) (T := R_Merge) (flds := fl_Merge_4 cA) 0 a.1 nm_Merge_table rfl (Or.inl rfl) rfl)) (pj_fld (τ := (tTup (tTup tInt))) (get := (fun x => x.1.1.1.2)) hX.cl_Merge hX.na_Merge_rows (fun _ => rfl) (pj_vc (C := cA.Merge_) (T := R_Merge) (flds := fl_Merge_4 cA) 0 a.1 nm_Merge_table rfl (Or.inl rfl) rfl)))) (pj_vv tInt 1 a.2.1 nm_Merge_table rfl (Or.inl rfl) rfl)) (imm_tup (imm_tup imm_int))) (fun _ => rfl) (by exact fun _ => .drop (.drop .nil)))⟩
abbrev m_Merge_table : A_Merge_table → Res B_Merge_table := d_Merge_table.1
abbrev sp_Merge_table (K : Fg) (mg : Str → Option Value) (cA : Ad) : Sp := SpOf K mg 2 (gp_Merge_table cA) m_Merge_table (gx_Merge_table cA) (kVal (tTup (tTup tInt))) (fun b => b)

abbrev S_Merge_tell : Stmt := inClass (topS 11) 2
abbrev N_Merge_tell : List Str := ["self", "port", "a", "b"]
theorem sc_Merge_tell : FnScope N_Merge_tell ["self", "port", "a", "b"] (defScope S_Merge_tell) := ⟨rfl, rfl, rfl, by decide +kernel, rfl, by decide +kernel, by decide +kernel⟩
theorem nm_Merge_tell : nmOk N_Merge_tell = true := by decide +kernel
theorem nd_Merge_tell : N_Merge_tell.Nodup := sc_Merge_tell.nd
abbrev A_Merge_tell := R_Merge × Int × Int × Int × Unit
abbrev B_Merge_tell := Int
abbrev gp_Merge_tell (cA : Ad) (pn : Nat → Addr) (a : A_Merge_tell) : List Slot := [sv (ty_Merge cA) a.1, sv tInt a.2.1, sv tInt a.2.2.1, sv tInt a.2.2.2.1]
abbrev gx_Merge_tell (cA : Ad) (pn : Nat → Addr) (b : B_Merge_tell) : List Slot := [none, none, none, none]
def d_Merge_tell : { m : A_Merge_tell → Res B_Merge_tell // ∀ (P : Program) (w : World) (K : Fg) (mg : Str → Option Value) (base : Heap) (cA : Ad) (hG : Gl mg) (hX : Cf K mg cA) (h_Merge_table : MethG P w K mg base cA.Merge_ 1 "table" ["self", "port"] (sp_Merge_table K mg cA)) (pn : Nat → Addr) (a : A_Merge_tell),
    BJ (bdOf P w K mg base 1 N_Merge_tell S_Merge_tell) (gp_Merge_tell cA pn a ++ List.replicate 0 none) (defBody S_Merge_tell) (m a) (fun b => .rt (gx_Merge_tell cA pn b) (kVal tInt) b) } :=
  ⟨_, fun P w K mg base cA hG hX h_Merge_table pn a =>
    (bj_rt (fun (v1 : Int) => gx_Merge_tell cA pn v1) (fun (v1 : Int) => v1) (ej_imm (τ := tInt) (pj_ixT (τ := tInt) (fun _ _ => rfl) (pj_ixT (τ := (tTup tInt)) (fun _ _ => rfl) (pj_of_oj (κ := (kVal (tTup (tTup tInt)))) (oj_meth (κ := (kVal (tTup (tTup tInt)))) (arg := fun x c => (x, c)) (methat 1 h_Merge_table hX.cl_Merge (Nat.le_of_ble_eq_true rfl)) (pj_vc (C := cA.Merge_) (T := R_Merge) (flds := fl_Merge_4 cA) 0 a.1 nm_Merge_tell rfl (Or.inl rfl) rfl) (fun _ => rfl) (aj_cons (pj_vv tInt 1 a.2.1 nm_Merge_tell rfl (Or.inl rfl) rfl) aj_nil) (fun _ _ _ => rfl) (fun _ => rfl))) (pj_vv tInt 2 a.2.2.1 nm_Merge_tell rfl (Or.inl rfl) rfl)) (pj_vv tInt 3 a.2.2.2.1 nm_Merge_tell rfl (Or.inl rfl) rfl)) imm_int) (fun _ => rfl) (by exact fun _ => .drop (.drop (.drop (.drop .nil)))))⟩
abbrev m_Merge_tell : A_Merge_tell → Res B_Merge_tell := d_Merge_tell.1
abbrev sp_Merge_tell (K : Fg) (mg : Str → Option Value) (cA : Ad) : Sp := SpOf K mg 4 (gp_Merge_tell cA) m_Merge_tell (gx_Merge_tell cA) (kVal tInt) (fun b => b)

abbrev S_tell : Stmt := topS 19
abbrev N_tell : List Str := ["rows", "port", "a", "b", "row"]
theorem sc_tell : FnScope N_tell ["rows", "port", "a", "b"] (defScope S_tell) := ⟨rfl, rfl, rfl, by decide +kernel, rfl, by decide +kernel, by decide +kernel⟩
theorem nm_tell : nmOk N_tell = true := by decide +kernel
theorem nd_tell : N_tell.Nodup := sc_tell.nd
abbrev A_tell := (List (List Int)) × Int × Int × Int × Unit
abbrev B_tell := Int
abbrev gp_tell (cA : Ad) (pn : Nat → Addr) (a : A_tell) : List Slot := [sv (tList (tList tInt)) a.1, sv tInt a.2.1, sv tInt a.2.2.1, sv tInt a.2.2.2.1]
abbrev gx_tell (cA : Ad) (pn : Nat → Addr) (b : B_tell) : List Slot := [none, none, none, none, none]
def d_tell : { m : A_tell → Res B_tell // ∀ (P : Program) (w : World) (K : Fg) (mg : Str → Option Value) (base : Heap) (cA : Ad) (hG : Gl mg) (hX : Cf K mg cA) (pn : Nat → Addr) (a : A_tell),
    BJ (bdOf P w K mg base 0 N_tell S_tell) (gp_tell cA pn a ++ List.replicate 1 none) (defBody S_tell) (m a) (fun b => .rt (gx_tell cA pn b) (kVal tInt) b) } :=
  ⟨_, fun P w K mg base cA hG hX  pn a =>
    (bj_ifT (finz := (fun b => .rt (gx_tell cA pn b) (kVal tInt) b)) (inj := (fun z => z)) (etj_of (tj_eqs .eq scaInt (pj_vv tInt 1 a.2.1 nm_tell rfl (Or.inl rfl) rfl) pj_int)) (fun (b1 : Bool) => (bj_rt (fun (v2 : Int) => gx_tell cA pn v2) (fun (v2 : Int) => v2) (ej_imm (τ := tInt) (pj_ixL (τ := tInt) (fun _ _ => rfl) (pj_ixL (τ := (tList tInt)) (fun _ _ => rfl) (pj_vv (tList (tList tInt)) 0 a.1 nm_tell rfl (Or.inl rfl) rfl) (pj_vv tInt 2 a.2.2.1 nm_tell rfl (Or.inr (Or.inl rfl)) rfl)) (pj_vv tInt 3 a.2.2.2.1 nm_tell rfl (Or.inl rfl) rfl)) imm_int) (fun _ => rfl) (by exact fun _ => .drop (.drop (.drop (.drop (.keep .nil))))))) (fun _ => rfl) (fun _ => rfl) (fun (b1 : Bool) => (bj_ifT (finz := (fun b => .rt (gx_tell cA pn b) (kVal tInt) b)) (inj := (fun z => z)) (etj_of (tj_eqs .eq scaInt (pj_vv tInt 1 a.2.1 nm_tell rfl (Or.inl rfl) rfl) pj_int)) (fun (b3 : Bool) => (bj_rt (fun (v4 : Int) => gx_tell cA pn v4) (fun (v4 : Int) => v4) (ej_imm (τ := tInt) (pj_index (pj_ixL (τ := (tList tInt)) (fun _ _ => rfl) (pj_vv (tList (tList tInt)) 0 a.1 nm_tell rfl (Or.inl rfl) rfl) (pj_vv tInt 2 a.2.2.1 nm_tell rfl (Or.inr (Or.inl rfl)) rfl)) (pj_vv tInt 3 a.2.2.2.1 nm_tell rfl (Or.inl rfl) rfl)) imm_int) (fun _ => rfl) (by exact fun _ => .drop (.drop (.drop (.drop (.keep .nil))))))) (fun _ => rfl) (fun _ => rfl) (fun (b3 : Bool) => (bj_rt (fun (v6 : Int) => gx_tell cA pn v6) (fun (v6 : Int) => v6) (ej_imm (τ := tInt) (pj_index (pj_of_oj (κ := (kL (kVal tInt))) (oj_lc nd_tell rfl (lcj (κ := (kVal tInt)) [("row", 4)] rfl (pij_list (τ := (tList tInt)) 4 nd_tell rfl (Or.inl rfl) (Or.inr rfl) (pj_vv (tList (tList tInt)) 0 a.1 nm_tell rfl (Or.inl rfl) rfl)) (by decide) (fun x5 => tsj_nil) (fun x5 => (oj_of_pj (pj_ixL (τ := tInt) (fun _ _ => rfl) (pj_vv (tList tInt) 4 x5 nm_tell rfl (Or.inl rfl) rfl) (pj_vv tInt 2 a.2.2.1 nm_tell rfl (Or.inr (Or.inl rfl)) rfl))))))) (pj_vv tInt 3 a.2.2.2.1 nm_tell rfl (Or.inl rfl) rfl)) imm_int) (fun _ => rfl) (by exact fun _ => .drop (.drop (.drop (.drop (.keep .nil))))))))))⟩
abbrev m_tell : A_tell → Res B_tell := d_tell.1
abbrev sp_tell (K : Fg) (mg : Str → Option Value) (cA : Ad) : Sp := SpOf K mg 4 (gp_tell cA) m_tell (gx_tell cA) (kVal tInt) (fun b => b)

abbrev S_Merge_holds : Stmt := inClass (topS 11) 4
abbrev N_Merge_holds : List Str := ["self", "x", "y", "z"]
theorem sc_Merge_holds : FnScope N_Merge_holds ["self", "x", "y", "z"] (defScope S_Merge_holds) := ⟨rfl, rfl, rfl, by decide +kernel, rfl, by decide +kernel, by decide +kernel⟩
theorem nm_Merge_holds : nmOk N_Merge_holds = true := by decide +kernel
theorem nd_Merge_holds : N_Merge_holds.Nodup := sc_Merge_holds.nd
abbrev A_Merge_holds := R_Merge × Int × Int × Int × Unit
abbrev B_Merge_holds := Bool
abbrev gp_Merge_holds (cA : Ad) (pn : Nat → Addr) (a : A_Merge_holds) : List Slot := [sv (ty_Merge cA) a.1, sv tInt a.2.1, sv tInt a.2.2.1, sv tInt a.2.2.2.1]
abbrev gx_Merge_holds (cA : Ad) (pn : Nat → Addr) (b : B_Merge_holds) : List Slot := [none, none, none, none]
def d_Merge_holds : { m : A_Merge_holds → Res B_Merge_holds // ∀ (P : Program) (w : World) (K : Fg) (mg : Str → Option Value) (base : Heap) (cA : Ad) (hG : Gl mg) (hX : Cf K mg cA) (pn : Nat → Addr) (a : A_Merge_holds),
    BJ (bdOf P w K mg base 0 N_Merge_holds S_Merge_holds) (gp_Merge_holds cA pn a ++ List.replicate 0 none) (defBody S_Merge_holds) (m a) (fun b => .rt (gx_Merge_holds cA pn b) (kVal tBool) b) } :=
  ⟨_, fun P w K mg base cA hG hX  pn a =>
    (bj_rt (fun (v1 : Bool) => gx_Merge_holds cA pn v1) (fun (v1 : Bool) => v1) (ej_imm (τ := tBool) (pj_eqs .eq scaInt (pj_ixT (τ := tInt) (fun _ _ => rfl) (pj_ixT (τ := (tTup tInt)) (fun _ _ => rfl) (pj_fld (τ := (tTup (tTup tInt))) (get := (fun x => x.1.1.1.2)) hX.cl_Merge hX.na_Merge_rows (fun _ => rfl) (pj_vc (C := cA.Merge_) (T := R_Merge) (flds := fl_Merge_4 cA) 0 a.1 nm_Merge_holds rfl (Or.inl rfl) rfl)) (pj_vv tInt 1 a.2.1 nm_Merge_holds rfl (Or.inl rfl) rfl)) (pj_vv tInt 2 a.2.2.1 nm_Merge_holds rfl (Or.inl rfl) rfl)) (pj_vv tInt 3 a.2.2.2.1 nm_Merge_holds rfl (Or.inl rfl) rfl)) imm_bool) (fun _ => rfl) (by exact fun _ => .drop (.drop (.drop (.drop .nil)))))⟩
abbrev m_Merge_holds : A_Merge_holds → Res B_Merge_holds := d_Merge_holds.1
abbrev sp_Merge_holds (K : Fg) (mg : Str → Option Value) (cA : Ad) : Sp := SpOf K mg 4 (gp_Merge_holds cA) m_Merge_holds (gx_Merge_holds cA) (kVal tBool) (fun b => b)

abbrev S_bool : Stmt := topS 21
abbrev N_bool : List Str := ["found", "due"]
theorem sc_bool : FnScope N_bool ["found", "due"] (defScope S_bool) := ⟨rfl, rfl, rfl, by decide +kernel, rfl, by decide +kernel, by decide +kernel⟩
theorem nm_bool : nmOk N_bool = true := by decide +kernel
theorem nd_bool : N_bool.Nodup := sc_bool.nd
abbrev A_bool := Bool × Bool × Unit
abbrev B_bool := Bool
abbrev gp_bool (cA : Ad) (pn : Nat → Addr) (a : A_bool) : List Slot := [sv tBool a.1, sv tBool a.2.1]
abbrev gx_bool (cA : Ad) (pn : Nat → Addr) (b : B_bool) : List Slot := [none, none]
def d_bool : { m : A_bool → Res B_bool // ∀ (P : Program) (w : World) (K : Fg) (mg : Str → Option Value) (base : Heap) (cA : Ad) (hG : Gl mg) (hX : Cf K mg cA) (pn : Nat → Addr) (a : A_bool),
    BJ (bdOf P w K mg base 0 N_bool S_bool) (gp_bool cA pn a ++ List.replicate 0 none) (defBody S_bool) (m a) (fun b => .rt (gx_bool cA pn b) (kVal tBool) b) } :=
  ⟨_, fun P w K mg base cA hG hX  pn a =>
    (bj_rt (fun (v1 : Bool) => gx_bool cA pn v1) (fun (v1 : Bool) => v1) (ej_imm (τ := tBool) (pj_or (pj_and (pj_isB .is (pj_vv tBool 0 a.1 nm_bool rfl (Or.inl rfl) rfl) pj_bl) (pj_one (pj_vv tBool 1 a.2.1 nm_bool rfl (Or.inl rfl) rfl))) (pj_one (pj_and (pj_isB .is (pj_vv tBool 0 a.1 nm_bool rfl (Or.inl rfl) rfl) pj_bl) (pj_one (pj_not (pj_vv tBool 1 a.2.1 nm_bool rfl (Or.inl rfl) rfl)))))) imm_bool) (fun _ => rfl) (by exact fun _ => .drop (.drop .nil)))⟩
abbrev m_bool : A_bool → Res B_bool := d_bool.1
abbrev sp_bool (K : Fg) (mg : Str → Option Value) (cA : Ad) : Sp := SpOf K mg 2 (gp_bool cA) m_bool (gx_bool cA) (kVal tBool) (fun b => b)

abbrev S_renaming : Stmt := topS 22
abbrev N_renaming : List Str := ["rows", "start", "goal", "thing", "names", "x", "y", "triple", "row"]
theorem sc_renaming : FnScope N_renaming ["rows", "start", "goal", "thing"] (defScope S_renaming) := ⟨rfl, rfl, rfl, by decide +kernel, rfl, by decide +kernel, by decide +kernel⟩
theorem nm_renaming : nmOk N_renaming = true := by decide +kernel
theorem nd_renaming : N_renaming.Nodup := sc_renaming.nd
abbrev A_renaming := (List (List Int)) × Int × Int × Int × Unit
abbrev B_renaming := (List Int)
abbrev gp_renaming (cA : Ad) (pn : Nat → Addr) (a : A_renaming) : List Slot := [sv (tList (tList tInt)) a.1, sv tInt a.2.1, sv tInt a.2.2.1, sv tInt a.2.2.2.1]
abbrev gx_renaming (cA : Ad) (pn : Nat → Addr) (b : B_renaming) : List Slot := [none, none, none, none, none, none, none, none, none]
def d_renaming : { m : A_renaming → Res B_renaming // ∀ (P : Program) (w : World) (K : Fg) (mg : Str → Option Value) (base : Heap) (cA : Ad) (hG : Gl mg) (hX : Cf K mg cA) (pn : Nat → Addr) (a : A_renaming),
    BJ (bdOf P w K mg base 0 N_renaming S_renaming) (gp_renaming cA pn a ++ List.replicate 5 none) (defBody S_renaming) (m a) (fun b => .rt (gx_renaming cA pn b) (kL (kVal tInt)) b) } :=
  ⟨_, fun P w K mg base cA hG hX  pn a =>
    (bj_setLc 4 nd_renaming rfl rfl rfl rfl rfl rfl (lcj (κ := (kVal tInt)) [("row", 8)] rfl (pij_list (τ := (tList tInt)) 8 nd_renaming rfl (Or.inl rfl) (Or.inr rfl) (pj_vv (tList (tList tInt)) 0 a.1 nm_renaming rfl (Or.inl rfl) rfl)) (by decide) (fun x2 => tsj_nil) (fun x2 => (oj_of_pj pj_int))) (imm_kVal imm_int) (fun v1 => (bj_for (g := fun (s4 : (List Int)) => [sv (tList (tList tInt)) a.1, sv tInt a.2.1, sv tInt a.2.2.1, sv tInt a.2.2.2.1, some ⟨(kL (kVal tInt)), s4⟩, none, none, none, none]) rfl (fj_rng1 5 nd_renaming rfl (Or.inl rfl) rfl hG.range_ (pj_len (sqList (tList tInt)) rfl hG.len_ (pj_vv (tList (tList tInt)) 0 a.1 nm_renaming rfl (Or.inl rfl) rfl))) v1 (by exact .keep (.keep (.keep (.keep (.keep (.keep (.keep (.keep (.keep .nil))))))))) (fun x3 s4 => (bj_for (g := fun (s7 : (List Int)) => [sv (tList (tList tInt)) a.1, sv tInt a.2.1, sv tInt a.2.2.1, sv tInt a.2.2.2.1, some ⟨(kL (kVal tInt)), s7⟩, sv tInt x3, none, none, none]) rfl (fj_rng1 6 nd_renaming rfl (Or.inl rfl) rfl hG.range_ (pj_len (sqList (tList tInt)) rfl hG.len_ (pj_vv (tList (tList tInt)) 0 a.1 nm_renaming rfl (Or.inl rfl) rfl))) s4 (by exact .keep (.keep (.keep (.keep (.keep (.keep (.keep (.keep (.keep .nil))))))))) (fun x6 s7 => (bj_set 7 nd_renaming rfl (Or.inl rfl) (ej_let (κ := (kL (kVal tInt))) (ej_ownI (κ := (kL (kVal tInt))) (oj_lst (es_cons (pj_vv tInt 5 x3 nm_renaming rfl (Or.inl rfl) rfl) (es_cons (pj_vv tInt 6 x6 nm_renaming rfl (Or.inl rfl) rfl) (es_cons (pj_ixL (τ := tInt) (fun _ _ => rfl) (pj_ixL (τ := (tList tInt)) (fun _ _ => rfl) (pj_vv (tList (tList tInt)) 0 a.1 nm_renaming rfl (Or.inl rfl) rfl) (pj_vv tInt 5 x3 nm_renaming rfl (Or.inl rfl) rfl)) (pj_vv tInt 6 x6 nm_renaming rfl (Or.inl rfl) rfl)) (es_nil (τ := tInt))))) (by decide)) (imm_kLP (imm_kVal imm_int)))) (fun (v9 : (List Int)) => (bj_ifJ (g := fun (s14 : (List Int)) => [sv (tList (tList tInt)) a.1, sv tInt a.2.1, sv tInt a.2.2.1, sv tInt a.2.2.2.1, some ⟨(kL (kVal tInt)), s14⟩, sv tInt x3, sv tInt x6, sv (tList tInt) v9, none]) (etj_of (tj_eqs .eq scaInt (pj_ixL (τ := tInt) (fun _ _ => rfl) (pj_vv (tList tInt) 7 v9 nm_renaming rfl (Or.inl rfl) rfl) (pj_sub (pj_sub pj_int (pj_vv tInt 1 a.2.1 nm_renaming rfl (Or.inl rfl) rfl)) (pj_vv tInt 2 a.2.2.1 nm_renaming rfl (Or.inl rfl) rfl))) (pj_vv tInt 3 a.2.2.2.1 nm_renaming rfl (Or.inl rfl) rfl))) (fun (b10 : Bool) => (bj_setIx (κ := (kVal tInt)) (xs := fun (v11 : Int) (v12 : Int) => s7) (k := fun (v12 : Int) => v12) 4 rfl (Or.inl rfl) rfl (ej_imm (τ := tInt) (pj_ixL (τ := tInt) (fun _ _ => rfl) (pj_vv (tList tInt) 7 v9 nm_renaming rfl (Or.inl rfl) rfl) (pj_vv tInt 2 a.2.2.1 nm_renaming rfl (Or.inl rfl) rfl)) imm_int) (fun (v11 : Int) => (ej_imm (τ := tInt) (pj_ixL (τ := tInt) (fun _ _ => rfl) (pj_vv (tList tInt) 7 v9 nm_renaming rfl (Or.inl rfl) rfl) (pj_vv tInt 1 a.2.1 nm_renaming rfl (Or.inl rfl) rfl)) imm_int)) (fun _ _ => rfl) (fun (v11 : Int) (v12 : Int) (v13 : (List Int)) => (bj_nil (G' := [sv (tList (tList tInt)) a.1, sv tInt a.2.1, sv tInt a.2.2.1, sv tInt a.2.2.2.1, some ⟨(kL (kVal tInt)), v13⟩, sv tInt x3, sv tInt x6, sv (tList tInt) v9, none]) (a := v13) (by exact .keep (.keep (.keep (.keep (.keep (.keep (.keep (.keep (.keep .nil))))))))) rfl)))) (fun (b10 : Bool) => (bj_nil (G' := [sv (tList (tList tInt)) a.1, sv tInt a.2.1, sv tInt a.2.2.1, sv tInt a.2.2.2.1, some ⟨(kL (kVal tInt)), s7⟩, sv tInt x3, sv tInt x6, sv (tList tInt) v9, none]) (a := s7) (by exact .keep (.keep (.keep (.keep (.keep (.keep (.keep (.keep (.keep .nil))))))))) rfl)) (fun s14 => (bj_nil (G' := [sv (tList (tList tInt)) a.1, sv tInt a.2.1, sv tInt a.2.2.1, sv tInt a.2.2.2.1, some ⟨(kL (kVal tInt)), s14⟩, sv tInt x3, none, none, none]) (a := s14) (by exact .keep (.keep (.keep (.keep (.keep (.keep (.drop (.drop (.keep .nil))))))))) rfl)))))) (fun s8 => (bj_nil (G' := [sv (tList (tList tInt)) a.1, sv tInt a.2.1, sv tInt a.2.2.1, sv tInt a.2.2.2.1, some ⟨(kL (kVal tInt)), s8⟩, none, none, none, none]) (a := s8) (by exact .keep (.keep (.keep (.keep (.keep (.drop (.keep (.keep (.keep .nil))))))))) rfl)))) (fun s5 => (bj_rt (fun (v15 : Unit) => gx_renaming cA pn s5) (fun (v15 : Unit) => s5) (ej_move (κ := (kL (kVal tInt))) 4 (x := s5) rfl (Or.inl rfl) rfl) (fun _ => rfl) (by exact fun _ => .drop (.drop (.drop (.drop (.keep (.keep (.keep (.keep (.keep .nil))))))))))))))⟩
abbrev m_renaming : A_renaming → Res B_renaming := d_renaming.1
abbrev sp_renaming (K : Fg) (mg : Str → Option Value) (cA : Ad) : Sp := SpOf K mg 4 (gp_renaming cA) m_renaming (gx_renaming cA) (kL (kVal tInt)) (fun b => b)

abbrev S_Merge_renaming : Stmt := inClass (topS 11) 3
abbrev N_Merge_renaming : List Str := ["self", "start", "goal", "thing", "x"]
theorem sc_Merge_renaming : FnScope N_Merge_renaming ["self", "start", "goal", "thing"] (defScope S_Merge_renaming) := ⟨rfl, rfl, rfl, by decide +kernel, rfl, by decide +kernel, by decide +kernel⟩
theorem nm_Merge_renaming : nmOk N_Merge_renaming = true := by decide +kernel
theorem nd_Merge_renaming : N_Merge_renaming.Nodup := sc_Merge_renaming.nd
abbrev A_Merge_renaming := R_Merge × Int × Int × Int × Unit
abbrev B_Merge_renaming := (List Int)
abbrev gp_Merge_renaming (cA : Ad) (pn : Nat → Addr) (a : A_Merge_renaming) : List Slot := [sv (ty_Merge cA) a.1, sv tInt a.2.1, sv tInt a.2.2.1, sv tInt a.2.2.2.1]
abbrev gx_Merge_renaming (cA : Ad) (pn : Nat → Addr) (b : B_Merge_renaming) : List Slot := [none, none, none, none, none]
def d_Merge_renaming : { m : A_Merge_renaming → Res B_Merge_renaming // ∀ (P : Program) (w : World) (K : Fg) (mg : Str → Option Value) (base : Heap) (cA : Ad) (hG : Gl mg) (hX : Cf K mg cA) (h_Merge_tell : MethG P w K mg base cA.Merge_ 2 "tell" ["self", "port", "a", "b"] (sp_Merge_tell K mg cA)) (pn : Nat → Addr) (a : A_Merge_renaming),
    BJ (bdOf P w K mg base 2 N_Merge_renaming S_Merge_renaming) (gp_Merge_renaming cA pn a ++ List.replicate 1 none) (defBody S_Merge_renaming) (m a) (fun b => .rt (gx_Merge_renaming cA pn b) (kVal (tTup tInt)) b) } :=
  ⟨_, fun P w K mg base cA hG hX h_Merge_tell pn a =>
    (bj_ifT (finz := (fun b => .rt (gx_Merge_renaming cA pn b) (kVal (tTup tInt)) b)) (inj := (fun z => z)) (etj_of (tj_icmp .lt (pj_vv tInt 1 a.2.1 nm_Merge_renaming rfl (Or.inl rfl) rfl) (pj_sub (pj_sub pj_int (pj_vv tInt 1 a.2.1 nm_Merge_renaming rfl (Or.inl rfl) rfl)) (pj_vv tInt 2 a.2.2.1 nm_Merge_renaming rfl (Or.inr (Or.inl rfl)) rfl)))) (fun (b1 : Bool) => (bj_rt (fun (v3 : (List Int)) => gx_Merge_renaming cA pn v3) (fun (v3 : (List Int)) => v3) (ej_imm (τ := (tTup tInt)) (pj_tuple (sqList tInt) rfl hG.tuple_ (pj_of_oj (κ := (kL (kVal tInt))) (oj_lc nd_Merge_renaming rfl (lcj (κ := (kVal tInt)) [("x", 4)] rfl (pij_rng1 4 nd_Merge_renaming rfl (Or.inl rfl) (Or.inr rfl) rfl hG.range_ (pj_fld (τ := tInt) (get := (fun x => x.1.1.2)) hX.cl_Merge hX.na_Merge_order (fun _ => rfl) (pj_vc (C := cA.Merge_) (T := R_Merge) (flds := fl_Merge_4 cA) 0 a.1 nm_Merge_renaming rfl (Or.inr (Or.inl rfl)) rfl))) (by decide) (fun x2 => tsj_nil) (fun x2 => (oj_of_pj (pj_of_oj (κ := (kVal tInt)) (oj_meth (κ := (kVal tInt)) (arg := fun x c => (x, c)) (methat 2 h_Merge_tell hX.cl_Merge (Nat.le_of_ble_eq_true rfl)) (pj_vc (C := cA.Merge_) (T := R_Merge) (flds := fl_Merge_4 cA) 0 a.1 nm_Merge_renaming rfl (Or.inr (Or.inl rfl)) rfl) (fun _ => rfl) (aj_cons (pj_vv tInt 2 a.2.2.1 nm_Merge_renaming rfl (Or.inr (Or.inl rfl)) rfl) (aj_cons (pj_vv tInt 4 x2 nm_Merge_renaming rfl (Or.inl rfl) rfl) (aj_cons (pj_vv tInt 3 a.2.2.2.1 nm_Merge_renaming rfl (Or.inr (Or.inl rfl)) rfl) aj_nil))) (fun _ _ _ => rfl) (fun _ => rfl))))))))) (imm_tup imm_int)) (fun _ => rfl) (by exact fun _ => .drop (.drop (.drop (.drop (.keep .nil))))))) (fun _ => rfl) (fun _ => rfl) (fun (b1 : Bool) => (bj_rt (fun (v5 : (List Int)) => gx_Merge_renaming cA pn v5) (fun (v5 : (List Int)) => v5) (ej_imm (τ := (tTup tInt)) (pj_tuple (sqList tInt) rfl hG.tuple_ (pj_of_oj (κ := (kL (kVal tInt))) (oj_lc nd_Merge_renaming rfl (lcj (κ := (kVal tInt)) [("x", 4)] rfl (pij_rng1 4 nd_Merge_renaming rfl (Or.inl rfl) (Or.inr rfl) rfl hG.range_ (pj_fld (τ := tInt) (get := (fun x => x.1.1.2)) hX.cl_Merge hX.na_Merge_order (fun _ => rfl) (pj_vc (C := cA.Merge_) (T := R_Merge) (flds := fl_Merge_4 cA) 0 a.1 nm_Merge_renaming rfl (Or.inr (Or.inl rfl)) rfl))) (by decide) (fun x4 => tsj_nil) (fun x4 => (oj_of_pj (pj_of_oj (κ := (kVal tInt)) (oj_meth (κ := (kVal tInt)) (arg := fun x c => (x, c)) (methat 2 h_Merge_tell hX.cl_Merge (Nat.le_of_ble_eq_true rfl)) (pj_vc (C := cA.Merge_) (T := R_Merge) (flds := fl_Merge_4 cA) 0 a.1 nm_Merge_renaming rfl (Or.inr (Or.inl rfl)) rfl) (fun _ => rfl) (aj_cons (pj_vv tInt 2 a.2.2.1 nm_Merge_renaming rfl (Or.inr (Or.inl rfl)) rfl) (aj_cons (pj_vv tInt 3 a.2.2.2.1 nm_Merge_renaming rfl (Or.inr (Or.inl rfl)) rfl) (aj_cons (pj_vv tInt 4 x4 nm_Merge_renaming rfl (Or.inl rfl) rfl) aj_nil))) (fun _ _ _ => rfl) (fun _ => rfl))))))))) (imm_tup imm_int)) (fun _ => rfl) (by exact fun _ => .drop (.drop (.drop (.drop (.keep .nil))))))))⟩
abbrev m_Merge_renaming : A_Merge_renaming → Res B_Merge_renaming := d_Merge_renaming.1
abbrev sp_Merge_renaming (K : Fg) (mg : Str → Option Value) (cA : Ad) : Sp := SpOf K mg 4 (gp_Merge_renaming cA) m_Merge_renaming (gx_Merge_renaming cA) (kVal (tTup tInt)) (fun b => b)

abbrev S_inverted_fits : Stmt := topS 27
abbrev N_inverted_fits : List Str := ["given", "kept", "due"]
theorem sc_inverted_fits : FnScope N_inverted_fits ["given", "kept", "due"] (defScope S_inverted_fits) := ⟨rfl, rfl, rfl, by decide +kernel, rfl, by decide +kernel, by decide +kernel⟩
theorem nm_inverted_fits : nmOk N_inverted_fits = true := by decide +kernel
theorem nd_inverted_fits : N_inverted_fits.Nodup := sc_inverted_fits.nd
abbrev A_inverted_fits := (List Int) × (List Int) × (List Int) × Unit
abbrev B_inverted_fits := Bool
abbrev gp_inverted_fits (cA : Ad) (pn : Nat → Addr) (a : A_inverted_fits) : List Slot := [sv (tList tInt) a.1, sv (tList tInt) a.2.1, sv (tList tInt) a.2.2.1]
abbrev gx_inverted_fits (cA : Ad) (pn : Nat → Addr) (b : B_inverted_fits) : List Slot := [none, none, none]
def d_inverted_fits : { m : A_inverted_fits → Res B_inverted_fits // ∀ (P : Program) (w : World) (K : Fg) (mg : Str → Option Value) (base : Heap) (cA : Ad) (hG : Gl mg) (hX : Cf K mg cA) (h_alike_2 : FnG P w K mg base 2 "_law_alike" ["found", "due"] (sp_alike_2 K mg cA)) (h_inverted_1 : FnG P w K mg base 1 "inverted" ["names"] (sp_inverted_1 K mg cA)) (pn : Nat → Addr) (a : A_inverted_fits),
    BJ (bdOf P w K mg base 2 N_inverted_fits S_inverted_fits) (gp_inverted_fits cA pn a ++ List.replicate 0 none) (defBody S_inverted_fits) (m a) (fun b => .rt (gx_inverted_fits cA pn b) (kVal tBool) b) } :=
  ⟨_, fun P w K mg base cA hG hX h_alike_2 h_inverted_1 pn a =>
    (bj_rt (fun (v1 : Bool) => gx_inverted_fits cA pn v1) (fun (v1 : Bool) => v1) (ej_imm (τ := tBool) (pj_and (pj_of_oj (κ := (kVal tBool)) (oj_call (κ := (kVal tBool)) (arg := fun c => c) (fnat 2 h_alike_2 (Nat.le_of_ble_eq_true rfl)) rfl (aj_cons (pj_of_oj (κ := (kVal (tTup tInt))) (oj_call (κ := (kVal (tTup tInt))) (arg := fun c => c) (fnat 1 h_inverted_1 (Nat.le_of_ble_eq_true rfl)) rfl (aj_cons (pj_vv (tList tInt) 0 a.1 nm_inverted_fits rfl (Or.inl rfl) rfl) aj_nil) (fun _ _ => rfl) (fun _ => rfl))) (aj_cons (pj_vv (tList tInt) 2 a.2.2.1 nm_inverted_fits rfl (Or.inl rfl) rfl) aj_nil)) (fun _ _ => rfl) (fun _ => rfl))) (pj_one (pj_eqd .eq (deqOf (dnList dnInt) (by decide)) (pj_of_oj (κ := (kL (kVal tInt))) (oj_list (sqList tInt) rfl hG.list_ (pj_vv (tList tInt) 0 a.1 nm_inverted_fits rfl (Or.inl rfl) rfl))) (pj_vv (tList tInt) 1 a.2.1 nm_inverted_fits rfl (Or.inl rfl) rfl)))) imm_bool) (fun _ => rfl) (by exact fun _ => .drop (.drop (.drop .nil))))⟩
abbrev m_inverted_fits : A_inverted_fits → Res B_inverted_fits := d_inverted_fits.1
abbrev sp_inverted_fits (K : Fg) (mg : Str → Option Value) (cA : Ad) : Sp := SpOf K mg 3 (gp_inverted_fits cA) m_inverted_fits (gx_inverted_fits cA) (kVal tBool) (fun b => b)

abbrev S_renamings_fit : Stmt := topS 28
abbrev N_renamings_fit : List Str := ["merge", "rows", "k", "start", "goal", "thing", "due", "back"]
theorem sc_renamings_fit : FnScope N_renamings_fit ["merge", "rows"] (defScope S_renamings_fit) := ⟨rfl, rfl, rfl, by decide +kernel, rfl, by decide +kernel, by decide +kernel⟩
theorem nm_renamings_fit : nmOk N_renamings_fit = true := by decide +kernel
theorem nd_renamings_fit : N_renamings_fit.Nodup := sc_renamings_fit.nd
abbrev A_renamings_fit := R_Merge × (List (List Int)) × Unit
abbrev B_renamings_fit := Bool
abbrev gp_renamings_fit (cA : Ad) (pn : Nat → Addr) (a : A_renamings_fit) : List Slot := [sv (ty_Merge cA) a.1, sv (tList (tList tInt)) a.2.1]
abbrev gx_renamings_fit (cA : Ad) (pn : Nat → Addr) (b : B_renamings_fit) : List Slot := [none, none, none, none, none, none, none, none]
def d_renamings_fit : { m : A_renamings_fit → Res B_renamings_fit // ∀ (P : Program) (w : World) (K : Fg) (mg : Str → Option Value) (base : Heap) (cA : Ad) (hG : Gl mg) (hX : Cf K mg cA) (h_renaming : FnG P w K mg base 1 "_law_renaming" ["rows", "start", "goal", "thing"] (sp_renaming K mg cA)) (h_alike_2 : FnG P w K mg base 2 "_law_alike" ["found", "due"] (sp_alike_2 K mg cA)) (h_Merge_renaming : MethG P w K mg base cA.Merge_ 3 "renaming" ["self", "start", "goal", "thing"] (sp_Merge_renaming K mg cA)) (h_inverted_fits : FnG P w K mg base 3 "_law_inverted_fits" ["given", "kept", "due"] (sp_inverted_fits K mg cA)) (pn : Nat → Addr) (a : A_renamings_fit),
    BJ (bdOf P w K mg base 3 N_renamings_fit S_renamings_fit) (gp_renamings_fit cA pn a ++ List.replicate 6 none) (defBody S_renamings_fit) (m a) (fun b => .rt (gx_renamings_fit cA pn b) (kVal tBool) b) } :=
  ⟨_, fun P w K mg base cA hG hX h_renaming h_alike_2 h_Merge_renaming h_inverted_fits pn a =>
    (bj_forR (ζ := Bool) (g := fun (s2 : Unit) => [sv (ty_Merge cA) a.1, sv (tList (tList tInt)) a.2.1, none, none, none, none, none, none]) (finz := (fun b => .rt (gx_renamings_fit cA pn b) (kVal tBool) b)) (inj := fun z => z) rfl (fj_rng1 2 nd_renamings_fit rfl (Or.inl rfl) rfl hG.range_ pj_int) (()) (by exact .keep (.keep (.keep (.keep (.keep (.keep (.keep (.keep .nil)))))))) (fun x1 s2 => (bj_set 3 nd_renamings_fit rfl (Or.inl rfl) (ej_imm (τ := tInt) (pj_div (pj_vv tInt 2 x1 nm_renamings_fit rfl (Or.inl rfl) rfl) pj_int) imm_int) (fun (v5 : Int) => (bj_set 4 nd_renamings_fit rfl (Or.inl rfl) (ej_imm (τ := tInt) (pj_mod (pj_int1 rfl hG.int_ (pj_vv tInt 2 x1 nm_renamings_fit rfl (Or.inl rfl) rfl)) pj_int) imm_int) (fun (v6 : Int) => (bj_forR (ζ := Bool) (g := fun (s8 : Unit) => [sv (ty_Merge cA) a.1, sv (tList (tList tInt)) a.2.1, sv tInt x1, sv tInt v5, sv tInt v6, none, none, none]) (finz := (fun b => .rt (gx_renamings_fit cA pn b) (kVal tBool) b)) (inj := fun z => Step.rt z) rfl (fj_rng1 5 nd_renamings_fit rfl (Or.inl rfl) rfl hG.range_ (pj_len (sqList (tList tInt)) rfl hG.len_ (pj_vv (tList (tList tInt)) 1 a.2.1 nm_renamings_fit rfl (Or.inl rfl) rfl))) (()) (by exact .keep (.keep (.keep (.keep (.keep (.keep (.keep (.keep .nil)))))))) (fun x7 s8 => (bj_ifS (ζ := Bool) (g := fun (s18 : Unit) => [sv (ty_Merge cA) a.1, sv (tList (tList tInt)) a.2.1, sv tInt x1, sv tInt v5, sv tInt v6, sv tInt x7, none, none]) (finz := (fun b => .rt (gx_renamings_fit cA pn b) (kVal tBool) b)) (inj := fun z => Step.rt z) (etj_of (tj_eqs .ne scaInt (pj_vv tInt 3 v5 nm_renamings_fit rfl (Or.inl rfl) rfl) (pj_vv tInt 4 v6 nm_renamings_fit rfl (Or.inl rfl) rfl))) (fun (b11 : Bool) => (bj_set 6 nd_renamings_fit rfl (Or.inl rfl) (ej_let (κ := (kL (kVal tInt))) (ej_ownI (κ := (kL (kVal tInt))) (oj_call (κ := (kL (kVal tInt))) (arg := fun c => c) (fnat 1 h_renaming (Nat.le_of_ble_eq_true rfl)) rfl (aj_cons (pj_vv (tList (tList tInt)) 1 a.2.1 nm_renamings_fit rfl (Or.inl rfl) rfl) (aj_cons (pj_vv tInt 3 v5 nm_renamings_fit rfl (Or.inl rfl) rfl) (aj_cons (pj_vv tInt 4 v6 nm_renamings_fit rfl (Or.inl rfl) rfl) (aj_cons (pj_vv tInt 5 x7 nm_renamings_fit rfl (Or.inl rfl) rfl) aj_nil)))) (fun _ _ => rfl) (fun _ => rfl)) (imm_kLP (imm_kVal imm_int)))) (fun (v12 : (List Int)) => (bj_set 7 nd_renamings_fit rfl (Or.inl rfl) (ej_let (κ := (kL (kVal tInt))) (ej_ownI (κ := (kL (kVal tInt))) (oj_call (κ := (kL (kVal tInt))) (arg := fun c => c) (fnat 1 h_renaming (Nat.le_of_ble_eq_true rfl)) rfl (aj_cons (pj_vv (tList (tList tInt)) 1 a.2.1 nm_renamings_fit rfl (Or.inl rfl) rfl) (aj_cons (pj_vv tInt 4 v6 nm_renamings_fit rfl (Or.inl rfl) rfl) (aj_cons (pj_vv tInt 3 v5 nm_renamings_fit rfl (Or.inl rfl) rfl) (aj_cons (pj_vv tInt 5 x7 nm_renamings_fit rfl (Or.inl rfl) rfl) aj_nil)))) (fun _ _ => rfl) (fun _ => rfl)) (imm_kLP (imm_kVal imm_int)))) (fun (v13 : (List Int)) => (bj_ifT (finz := (fun b => .rt (gx_renamings_fit cA pn b) (kVal tBool) b)) (inj := (fun z => Done.rt z)) (etj_of (tj_not (tj_val (pj_of_oj (κ := (kVal tBool)) (oj_call (κ := (kVal tBool)) (arg := fun c => c) (fnat 2 h_alike_2 (Nat.le_of_ble_eq_true rfl)) rfl (aj_cons (pj_of_oj (κ := (kVal (tTup tInt))) (oj_meth (κ := (kVal (tTup tInt))) (arg := fun x c => (x, c)) (methat 3 h_Merge_renaming hX.cl_Merge (Nat.le_of_ble_eq_true rfl)) (pj_vc (C := cA.Merge_) (T := R_Merge) (flds := fl_Merge_4 cA) 0 a.1 nm_renamings_fit rfl (Or.inl rfl) rfl) (fun _ => rfl) (aj_cons (pj_vv tInt 3 v5 nm_renamings_fit rfl (Or.inl rfl) rfl) (aj_cons (pj_vv tInt 4 v6 nm_renamings_fit rfl (Or.inl rfl) rfl) (aj_cons (pj_vv tInt 5 x7 nm_renamings_fit rfl (Or.inl rfl) rfl) aj_nil))) (fun _ _ _ => rfl) (fun _ => rfl))) (aj_cons (pj_vv (tList tInt) 6 v12 nm_renamings_fit rfl (Or.inl rfl) rfl) aj_nil)) (fun _ _ => rfl) (fun _ => rfl)))))) (fun (b14 : Bool) => (bj_rt (fun (v15 : Bool) => gx_renamings_fit cA pn v15) (fun (v15 : Bool) => v15) (ej_imm (τ := tBool) pj_bl imm_bool) (fun _ => rfl) (by exact fun _ => .drop (.drop (.drop (.drop (.drop (.drop (.drop (.drop .nil)))))))))) (fun _ => rfl) (fun _ => rfl) (fun (b14 : Bool) => (bj_ifT (finz := (fun b => .rt (gx_renamings_fit cA pn b) (kVal tBool) b)) (inj := (fun z => Done.rt z)) (etj_of (tj_not (tj_val (pj_of_oj (κ := (kVal tBool)) (oj_call (κ := (kVal tBool)) (arg := fun c => c) (fnat 3 h_inverted_fits (Nat.le_of_ble_eq_true rfl)) rfl (aj_cons (pj_of_oj (κ := (kL (kVal tInt))) (oj_list (sqList tInt) rfl hG.list_ (pj_vv (tList tInt) 6 v12 nm_renamings_fit rfl (Or.inl rfl) rfl))) (aj_cons (pj_vv (tList tInt) 6 v12 nm_renamings_fit rfl (Or.inl rfl) rfl) (aj_cons (pj_vv (tList tInt) 7 v13 nm_renamings_fit rfl (Or.inl rfl) rfl) aj_nil))) (fun _ _ => rfl) (fun _ => rfl)))))) (fun (b16 : Bool) => (bj_rt (fun (v17 : Bool) => gx_renamings_fit cA pn v17) (fun (v17 : Bool) => v17) (ej_imm (τ := tBool) pj_bl imm_bool) (fun _ => rfl) (by exact fun _ => .drop (.drop (.drop (.drop (.drop (.drop (.drop (.drop .nil)))))))))) (fun _ => rfl) (fun _ => rfl) (fun (b16 : Bool) => (bj_nil (G' := [sv (ty_Merge cA) a.1, sv (tList (tList tInt)) a.2.1, sv tInt x1, sv tInt v5, sv tInt v6, sv tInt x7, none, none]) (a := Done.go (())) (by exact .keep (.keep (.keep (.keep (.keep (.keep (.drop (.drop .nil)))))))) rfl)))))))))) (fun (b11 : Bool) => (bj_nil (G' := [sv (ty_Merge cA) a.1, sv (tList (tList tInt)) a.2.1, sv tInt x1, sv tInt v5, sv tInt v6, sv tInt x7, none, none]) (a := Done.go (())) (by exact .keep (.keep (.keep (.keep (.keep (.keep (.keep (.keep .nil)))))))) rfl)) (fun _ => rfl) (fun _ => rfl) (fun s18 => (bj_nil (G' := [sv (ty_Merge cA) a.1, sv (tList (tList tInt)) a.2.1, sv tInt x1, sv tInt v5, sv tInt v6, none, none, none]) (a := Step.nx (())) (by exact .keep (.keep (.keep (.keep (.keep (.drop (.keep (.keep .nil)))))))) rfl)))) (fun _ => ⟨_, _, _, rfl⟩) (fun _ => rfl) (fun s9 => (bj_nil (G' := [sv (ty_Merge cA) a.1, sv (tList (tList tInt)) a.2.1, none, none, none, none, none, none]) (a := Step.nx (())) (by exact .keep (.keep (.drop (.drop (.drop (.keep (.keep (.keep .nil)))))))) rfl)))))))) (fun _ => ⟨_, _, _, rfl⟩) (fun _ => rfl) (fun s3 => (bj_rt (fun (v19 : Bool) => gx_renamings_fit cA pn v19) (fun (v19 : Bool) => v19) (ej_imm (τ := tBool) pj_bl imm_bool) (fun _ => rfl) (by exact fun _ => .drop (.drop (.keep (.keep (.keep (.keep (.keep (.keep .nil)))))))))))⟩
abbrev m_renamings_fit : A_renamings_fit → Res B_renamings_fit := d_renamings_fit.1
abbrev sp_renamings_fit (K : Fg) (mg : Str → Option Value) (cA : Ad) : Sp := SpOf K mg 2 (gp_renamings_fit cA) m_renamings_fit (gx_renamings_fit cA) (kVal tBool) (fun b => b)

abbrev S_merge_fits : Stmt := topS 29
abbrev N_merge_fits : List Str := ["merge", "rows", "a", "b", "port", "z"]
theorem sc_merge_fits : FnScope N_merge_fits ["merge", "rows"] (defScope S_merge_fits) := ⟨rfl, rfl, rfl, by decide +kernel, rfl, by decide +kernel, by decide +kernel⟩
theorem nm_merge_fits : nmOk N_merge_fits = true := by decide +kernel
theorem nd_merge_fits : N_merge_fits.Nodup := sc_merge_fits.nd
abbrev A_merge_fits := R_Merge × (List (List Int)) × Unit
abbrev B_merge_fits := Bool
abbrev gp_merge_fits (cA : Ad) (pn : Nat → Addr) (a : A_merge_fits) : List Slot := [sv (ty_Merge cA) a.1, sv (tList (tList tInt)) a.2.1]
abbrev gx_merge_fits (cA : Ad) (pn : Nat → Addr) (b : B_merge_fits) : List Slot := [none, none, none, none, none, none]
def d_merge_fits : { m : A_merge_fits → Res B_merge_fits // ∀ (P : Program) (w : World) (K : Fg) (mg : Str → Option Value) (base : Heap) (cA : Ad) (hG : Gl mg) (hX : Cf K mg cA) (h_alike_1 : FnG P w K mg base 3 "_law_alike" ["found", "due"] (sp_alike_1 K mg cA)) (h_alike : FnG P w K mg base 1 "_law_alike" ["found", "due"] (sp_alike K mg cA)) (h_alike_3 : FnG P w K mg base 3 "_law_alike" ["found", "due"] (sp_alike_3 K mg cA)) (h_triples : FnG P w K mg base 1 "_law_triples" ["rows"] (sp_triples K mg cA)) (h_Merge_triples : MethG P w K mg base cA.Merge_ 1 "triples" ["self"] (sp_Merge_triples K mg cA)) (h_tell : FnG P w K mg base 1 "_law_tell" ["rows", "port", "a", "b"] (sp_tell K mg cA)) (h_Merge_tell : MethG P w K mg base cA.Merge_ 2 "tell" ["self", "port", "a", "b"] (sp_Merge_tell K mg cA)) (h_bool : FnG P w K mg base 1 "_law_bool" ["found", "due"] (sp_bool K mg cA)) (h_Merge_holds : MethG P w K mg base cA.Merge_ 1 "holds" ["self", "x", "y", "z"] (sp_Merge_holds K mg cA)) (h_renamings_fit : FnG P w K mg base 4 "_law_renamings_fit" ["merge", "rows"] (sp_renamings_fit K mg cA)) (pn : Nat → Addr) (a : A_merge_fits),
    BJ (bdOf P w K mg base 4 N_merge_fits S_merge_fits) (gp_merge_fits cA pn a ++ List.replicate 4 none) (defBody S_merge_fits) (m a) (fun b => .rt (gx_merge_fits cA pn b) (kVal tBool) b) } :=
  ⟨_, fun P w K mg base cA hG hX h_alike_1 h_alike h_alike_3 h_triples h_Merge_triples h_tell h_Merge_tell h_bool h_Merge_holds h_renamings_fit pn a =>
    (bj_ifT (finz := (fun b => .rt (gx_merge_fits cA pn b) (kVal tBool) b)) (inj := (fun z => z)) (etj_of (tj_wj (wj_or (tj_not (tj_val (pj_isiC hX.ins_Merge hX.kit_Merge_Merge rfl hG.isinstance_ rfl hX.mg_Merge (pj_vc (C := cA.Merge_) (T := R_Merge) (flds := fl_Merge_4 cA) 0 a.1 nm_merge_fits rfl (Or.inl rfl) rfl)))) (wj_or (tj_not (tj_val (pj_of_oj (κ := (kVal tBool)) (oj_call (κ := (kVal tBool)) (arg := fun c => c) (fnat 1 h_alike (Nat.le_of_ble_eq_true rfl)) rfl (aj_cons (pj_fld (τ := tInt) (get := (fun x => x.1.1.2)) hX.cl_Merge hX.na_Merge_order (fun _ => rfl) (pj_vc (C := cA.Merge_) (T := R_Merge) (flds := fl_Merge_4 cA) 0 a.1 nm_merge_fits rfl (Or.inl rfl) rfl)) (aj_cons (pj_len (sqList (tList tInt)) rfl hG.len_ (pj_vv (tList (tList tInt)) 1 a.2.1 nm_merge_fits rfl (Or.inl rfl) rfl)) aj_nil)) (fun _ _ => rfl) (fun _ => rfl))))) (wj_or1 (tj_not (tj_val (pj_of_oj (κ := (kVal tBool)) (oj_call (κ := (kVal tBool)) (arg := fun c => c) (fnat 3 h_alike_1 (Nat.le_of_ble_eq_true rfl)) rfl (aj_cons (pj_fld (τ := (tTup (tTup tInt))) (get := (fun x => x.1.1.1.2)) hX.cl_Merge hX.na_Merge_rows (fun _ => rfl) (pj_vc (C := cA.Merge_) (T := R_Merge) (flds := fl_Merge_4 cA) 0 a.1 nm_merge_fits rfl (Or.inl rfl) rfl)) (aj_cons (pj_vv (tList (tList tInt)) 1 a.2.1 nm_merge_fits rfl (Or.inl rfl) rfl) aj_nil)) (fun _ _ => rfl) (fun _ => rfl)))))))))) (fun (b1 : Bool) => (bj_rt (fun (v2 : Bool) => gx_merge_fits cA pn v2) (fun (v2 : Bool) => v2) (ej_imm (τ := tBool) pj_bl imm_bool) (fun _ => rfl) (by exact fun _ => .drop (.drop (.keep (.keep (.keep (.keep .nil)))))))) (fun _ => rfl) (fun _ => rfl) (fun (b1 : Bool) => (bj_ifT (finz := (fun b => .rt (gx_merge_fits cA pn b) (kVal tBool) b)) (inj := (fun z => z)) (etj_of (tj_not (tj_val (pj_of_oj (κ := (kVal tBool)) (oj_call (κ := (kVal tBool)) (arg := fun c => c) (fnat 3 h_alike_3 (Nat.le_of_ble_eq_true rfl)) rfl (aj_cons (pj_of_oj (κ := (kVal (tTup (tT3 tInt tInt tInt)))) (oj_meth0 (κ := (kVal (tTup (tT3 tInt tInt tInt)))) (arg := fun x => (x, ())) (methat 1 h_Merge_triples hX.cl_Merge (Nat.le_of_ble_eq_true rfl)) (pj_vc (C := cA.Merge_) (T := R_Merge) (flds := fl_Merge_4 cA) 0 a.1 nm_merge_fits rfl (Or.inl rfl) rfl) (fun _ => rfl) (fun _ _ => rfl))) (aj_cons (pj_of_oj (κ := (kL (kVal (tList tInt)))) (oj_call (κ := (kL (kVal (tList tInt)))) (arg := fun c => c) (fnat 1 h_triples (Nat.le_of_ble_eq_true rfl)) rfl (aj_cons (pj_vv (tList (tList tInt)) 1 a.2.1 nm_merge_fits rfl (Or.inl rfl) rfl) aj_nil) (fun _ _ => rfl) (fun _ => rfl))) aj_nil)) (fun _ _ => rfl) (fun _ => rfl)))))) (fun (b3 : Bool) => (bj_rt (fun (v4 : Bool) => gx_merge_fits cA pn v4) (fun (v4 : Bool) => v4) (ej_imm (τ := tBool) pj_bl imm_bool) (fun _ => rfl) (by exact fun _ => .drop (.drop (.keep (.keep (.keep (.keep .nil)))))))) (fun _ => rfl) (fun _ => rfl) (fun (b3 : Bool) => (bj_forR (ζ := Bool) (g := fun (s6 : Unit) => [sv (ty_Merge cA) a.1, sv (tList (tList tInt)) a.2.1, none, none, none, none]) (finz := (fun b => .rt (gx_merge_fits cA pn b) (kVal tBool) b)) (inj := fun z => z) rfl (fj_rng1 2 nd_merge_fits rfl (Or.inl rfl) rfl hG.range_ (pj_len (sqList (tList tInt)) rfl hG.len_ (pj_vv (tList (tList tInt)) 1 a.2.1 nm_merge_fits rfl (Or.inl rfl) rfl))) (()) (by exact .keep (.keep (.keep (.keep (.keep (.keep .nil)))))) (fun x5 s6 => (bj_forR (ζ := Bool) (g := fun (s10 : Unit) => [sv (ty_Merge cA) a.1, sv (tList (tList tInt)) a.2.1, sv tInt x5, none, none, none]) (finz := (fun b => .rt (gx_merge_fits cA pn b) (kVal tBool) b)) (inj := fun z => Step.rt z) rfl (fj_rng1 3 nd_merge_fits rfl (Or.inl rfl) rfl hG.range_ (pj_len (sqList (tList tInt)) rfl hG.len_ (pj_vv (tList (tList tInt)) 1 a.2.1 nm_merge_fits rfl (Or.inl rfl) rfl))) (()) (by exact .keep (.keep (.keep (.keep (.keep (.keep .nil)))))) (fun x9 s10 => (bj_forR (ζ := Bool) (g := fun (s14 : Unit) => [sv (ty_Merge cA) a.1, sv (tList (tList tInt)) a.2.1, sv tInt x5, sv tInt x9, none, none]) (finz := (fun b => .rt (gx_merge_fits cA pn b) (kVal tBool) b)) (inj := fun z => Step.rt z) rfl (fj_rng1 4 nd_merge_fits rfl (Or.inl rfl) rfl hG.range_ pj_int) (()) (by exact .keep (.keep (.keep (.keep (.keep (.keep .nil)))))) (fun x13 s14 => (bj_ifT (finz := (fun b => .rt (gx_merge_fits cA pn b) (kVal tBool) b)) (inj := (fun z => Step.rt z)) (etj_of (tj_not (tj_val (pj_of_oj (κ := (kVal tBool)) (oj_call (κ := (kVal tBool)) (arg := fun c => c) (fnat 1 h_alike (Nat.le_of_ble_eq_true rfl)) rfl (aj_cons (pj_of_oj (κ := (kVal tInt)) (oj_meth (κ := (kVal tInt)) (arg := fun x c => (x, c)) (methat 2 h_Merge_tell hX.cl_Merge (Nat.le_of_ble_eq_true rfl)) (pj_vc (C := cA.Merge_) (T := R_Merge) (flds := fl_Merge_4 cA) 0 a.1 nm_merge_fits rfl (Or.inl rfl) rfl) (fun _ => rfl) (aj_cons (pj_vv tInt 4 x13 nm_merge_fits rfl (Or.inl rfl) rfl) (aj_cons (pj_vv tInt 2 x5 nm_merge_fits rfl (Or.inl rfl) rfl) (aj_cons (pj_vv tInt 3 x9 nm_merge_fits rfl (Or.inl rfl) rfl) aj_nil))) (fun _ _ _ => rfl) (fun _ => rfl))) (aj_cons (pj_of_oj (κ := (kVal tInt)) (oj_call (κ := (kVal tInt)) (arg := fun c => c) (fnat 1 h_tell (Nat.le_of_ble_eq_true rfl)) rfl (aj_cons (pj_vv (tList (tList tInt)) 1 a.2.1 nm_merge_fits rfl (Or.inl rfl) rfl) (aj_cons (pj_vv tInt 4 x13 nm_merge_fits rfl (Or.inl rfl) rfl) (aj_cons (pj_vv tInt 2 x5 nm_merge_fits rfl (Or.inl rfl) rfl) (aj_cons (pj_vv tInt 3 x9 nm_merge_fits rfl (Or.inl rfl) rfl) aj_nil)))) (fun _ _ => rfl) (fun _ => rfl))) aj_nil)) (fun _ _ => rfl) (fun _ => rfl)))))) (fun (b17 : Bool) => (bj_rt (fun (v18 : Bool) => gx_merge_fits cA pn v18) (fun (v18 : Bool) => v18) (ej_imm (τ := tBool) pj_bl imm_bool) (fun _ => rfl) (by exact fun _ => .drop (.drop (.drop (.drop (.drop (.keep .nil)))))))) (fun _ => rfl) (fun _ => rfl) (fun (b17 : Bool) => (bj_nil (G' := [sv (ty_Merge cA) a.1, sv (tList (tList tInt)) a.2.1, sv tInt x5, sv tInt x9, none, none]) (a := Step.nx (())) (by exact .keep (.keep (.keep (.keep (.drop (.keep .nil)))))) rfl)))) (fun _ => ⟨_, _, _, rfl⟩) (fun _ => rfl) (fun s15 => (bj_forR (ζ := Bool) (g := fun (s20 : Unit) => [sv (ty_Merge cA) a.1, sv (tList (tList tInt)) a.2.1, sv tInt x5, sv tInt x9, none, none]) (finz := (fun b => .rt (gx_merge_fits cA pn b) (kVal tBool) b)) (inj := fun z => Step.rt z) rfl (fj_rng1 5 nd_merge_fits rfl (Or.inl rfl) rfl hG.range_ (pj_len (sqList (tList tInt)) rfl hG.len_ (pj_vv (tList (tList tInt)) 1 a.2.1 nm_merge_fits rfl (Or.inl rfl) rfl))) (()) (by exact .keep (.keep (.keep (.keep (.keep (.keep .nil)))))) (fun x19 s20 => (bj_ifT (finz := (fun b => .rt (gx_merge_fits cA pn b) (kVal tBool) b)) (inj := (fun z => Step.rt z)) (etj_of (tj_not (tj_val (pj_of_oj (κ := (kVal tBool)) (oj_call (κ := (kVal tBool)) (arg := fun c => c) (fnat 1 h_bool (Nat.le_of_ble_eq_true rfl)) rfl (aj_cons (pj_of_oj (κ := (kVal tBool)) (oj_meth (κ := (kVal tBool)) (arg := fun x c => (x, c)) (methat 1 h_Merge_holds hX.cl_Merge (Nat.le_of_ble_eq_true rfl)) (pj_vc (C := cA.Merge_) (T := R_Merge) (flds := fl_Merge_4 cA) 0 a.1 nm_merge_fits rfl (Or.inl rfl) rfl) (fun _ => rfl) (aj_cons (pj_vv tInt 2 x5 nm_merge_fits rfl (Or.inl rfl) rfl) (aj_cons (pj_vv tInt 3 x9 nm_merge_fits rfl (Or.inl rfl) rfl) (aj_cons (pj_vv tInt 5 x19 nm_merge_fits rfl (Or.inl rfl) rfl) aj_nil))) (fun _ _ _ => rfl) (fun _ => rfl))) (aj_cons (pj_eqs .eq scaInt (pj_ixL (τ := tInt) (fun _ _ => rfl) (pj_ixL (τ := (tList tInt)) (fun _ _ => rfl) (pj_vv (tList (tList tInt)) 1 a.2.1 nm_merge_fits rfl (Or.inl rfl) rfl) (pj_vv tInt 2 x5 nm_merge_fits rfl (Or.inl rfl) rfl)) (pj_vv tInt 3 x9 nm_merge_fits rfl (Or.inl rfl) rfl)) (pj_vv tInt 5 x19 nm_merge_fits rfl (Or.inl rfl) rfl)) aj_nil)) (fun _ _ => rfl) (fun _ => rfl)))))) (fun (b23 : Bool) => (bj_rt (fun (v24 : Bool) => gx_merge_fits cA pn v24) (fun (v24 : Bool) => v24) (ej_imm (τ := tBool) pj_bl imm_bool) (fun _ => rfl) (by exact fun _ => .drop (.drop (.drop (.drop (.keep (.drop .nil)))))))) (fun _ => rfl) (fun _ => rfl) (fun (b23 : Bool) => (bj_nil (G' := [sv (ty_Merge cA) a.1, sv (tList (tList tInt)) a.2.1, sv tInt x5, sv tInt x9, none, none]) (a := Step.nx (())) (by exact .keep (.keep (.keep (.keep (.keep (.drop .nil)))))) rfl)))) (fun _ => ⟨_, _, _, rfl⟩) (fun _ => rfl) (fun s21 => (bj_nil (G' := [sv (ty_Merge cA) a.1, sv (tList (tList tInt)) a.2.1, sv tInt x5, none, none, none]) (a := Step.nx (())) (by exact .keep (.keep (.keep (.drop (.keep (.keep .nil)))))) rfl)))))) (fun _ => ⟨_, _, _, rfl⟩) (fun _ => rfl) (fun s11 => (bj_nil (G' := [sv (ty_Merge cA) a.1, sv (tList (tList tInt)) a.2.1, none, none, none, none]) (a := Step.nx (())) (by exact .keep (.keep (.drop (.keep (.keep (.keep .nil)))))) rfl)))) (fun _ => ⟨_, _, _, rfl⟩) (fun _ => rfl) (fun s7 => (bj_rt (fun (v25 : Bool) => gx_merge_fits cA pn v25) (fun (v25 : Bool) => v25) (ej_imm (τ := tBool) (pj_of_oj (κ := (kVal tBool)) (oj_call (κ := (kVal tBool)) (arg := fun c => c) (fnat 4 h_renamings_fit (Nat.le_of_ble_eq_true rfl)) rfl (aj_consC (pj_vc (C := cA.Merge_) (T := R_Merge) (flds := fl_Merge_4 cA) 0 a.1 nm_merge_fits rfl (Or.inl rfl) rfl) (aj_cons (pj_vv (tList (tList tInt)) 1 a.2.1 nm_merge_fits rfl (Or.inl rfl) rfl) aj_nil)) (fun _ _ => rfl) (fun _ => rfl))) imm_bool) (fun _ => rfl) (by exact fun _ => .drop (.drop (.keep (.keep (.keep (.keep .nil)))))))))))))⟩
abbrev m_merge_fits : A_merge_fits → Res B_merge_fits := d_merge_fits.1
abbrev sp_merge_fits (K : Fg) (mg : Str → Option Value) (cA : Ad) : Sp := SpOf K mg 2 (gp_merge_fits cA) m_merge_fits (gx_merge_fits cA) (kVal tBool) (fun b => b)

abbrev S_swap : Stmt := topS 18
abbrev N_swap : List Str := ["rows", "c", "d", "row", "held"]
theorem sc_swap : FnScope N_swap ["rows", "c", "d"] (defScope S_swap) := ⟨rfl, rfl, rfl, by decide +kernel, rfl, by decide +kernel, by decide +kernel⟩
theorem nm_swap : nmOk N_swap = true := by decide +kernel
theorem nd_swap : N_swap.Nodup := sc_swap.nd
abbrev A_swap := (List (List Int)) × Int × Int × Unit
abbrev B_swap := (List (List Int))
abbrev gp_swap (cA : Ad) (pn : Nat → Addr) (a : A_swap) : List Slot := [some ⟨(kLP (fun q => q = pn 0) (kL (kVal tInt))), a.1⟩, sv tInt a.2.1, sv tInt a.2.2.1]
abbrev gx_swap (cA : Ad) (pn : Nat → Addr) (b : B_swap) : List Slot := [some ⟨(kLP (fun q => q = pn 0) (kL (kVal tInt))), b⟩, none, none, none, none]
def d_swap : { m : A_swap → Res B_swap // ∀ (P : Program) (w : World) (K : Fg) (mg : Str → Option Value) (base : Heap) (cA : Ad) (hG : Gl mg) (hX : Cf K mg cA) (pn : Nat → Addr) (a : A_swap),
    BJ (bdOf P w K mg base 0 N_swap S_swap) (gp_swap cA pn a ++ List.replicate 2 none) (defBody S_swap) (m a) (fun b => .nx (gx_swap cA pn b)) } :=
  ⟨_, fun P w K mg base cA hG hX  pn a =>
    (bj_forB (κ := (kVal tInt)) 0 3 (g := fun (s5 : Unit) => [none, sv tInt a.2.1, sv tInt a.2.2.1, none, none]) (()) rfl nd_swap nm_swap rfl (Or.inl rfl) rfl (Or.inl rfl) (by decide) rfl (fun _ => Nat.le_of_ble_eq_true rfl) (fun _ => Nat.le_of_ble_eq_true rfl) (fun _ _ => rfl) (by exact .keep (.keep (.keep (.keep (.keep .nil))))) (fun pin6 q1 j2 (x3 : (List Int)) (xs4 : (List (List Int))) (s5 : Unit) => (bj_set 4 nd_swap rfl (Or.inl rfl) (ej_imm (τ := tInt) (pj_ixL (τ := tInt) (fun _ _ => rfl) (pj_vl (kVal tInt) 3 x3 nm_swap rfl (Or.inl rfl) rfl) (pj_vv tInt 1 a.2.1 nm_swap rfl (Or.inl rfl) rfl)) imm_int) (fun (v7 : Int) => (bj_setIx (κ := (kVal tInt)) (xs := fun (v8 : Int) (v9 : Int) => x3) (k := fun (v9 : Int) => v9) 3 rfl (Or.inl rfl) rfl (ej_imm (τ := tInt) (pj_ixL (τ := tInt) (fun _ _ => rfl) (pj_vl (kVal tInt) 3 x3 nm_swap rfl (Or.inl rfl) rfl) (pj_vv tInt 2 a.2.2.1 nm_swap rfl (Or.inl rfl) rfl)) imm_int) (fun (v8 : Int) => (ej_imm (τ := tInt) (pj_vv tInt 1 a.2.1 nm_swap rfl (Or.inl rfl) rfl) imm_int)) (fun _ _ => rfl) (fun (v8 : Int) (v9 : Int) (v10 : (List Int)) => (bj_setIx (κ := (kVal tInt)) (xs := fun (v11 : Int) (v12 : Int) => v10) (k := fun (v12 : Int) => v12) 3 rfl (Or.inl rfl) rfl (ej_imm (τ := tInt) (pj_vv tInt 4 v7 nm_swap rfl (Or.inl rfl) rfl) imm_int) (fun (v11 : Int) => (ej_imm (τ := tInt) (pj_vv tInt 2 a.2.2.1 nm_swap rfl (Or.inl rfl) rfl) imm_int)) (fun _ _ => rfl) (fun (v11 : Int) (v12 : Int) (v13 : (List Int)) => (bj_nil (G' := [some ⟨kHole pin6 q1 j2 (kL (kVal tInt)), xs4⟩, sv tInt a.2.1, sv tInt a.2.2.1, some ⟨(kLP (fun a => a = q1 ∧ True) (kVal tInt)), v13⟩, none]) (a := (v13, ())) (by exact .keep (.keep (.keep (.keep (.drop .nil))))) rfl)))))))) (fun (xs14 : (List (List Int))) (s15 : Unit) => (bj_nil (G' := [some ⟨(kLP (fun q => q = pn 0) (kL (kVal tInt))), xs14⟩, none, none, none, none]) (a := xs14) (by exact .keep (.drop (.drop (.keep (.keep .nil))))) rfl)))⟩
abbrev m_swap : A_swap → Res B_swap := d_swap.1
abbrev sp_swap (K : Fg) (mg : Str → Option Value) (cA : Ad) : Sp := SpOf K mg 3 (gp_swap cA) m_swap (gx_swap cA) (kVal tNone) (fun _ => ())

abbrev S_swap_1 : Stmt := topS 18
abbrev N_swap_1 : List Str := ["rows", "c", "d", "row", "held"]
theorem sc_swap_1 : FnScope N_swap_1 ["rows", "c", "d"] (defScope S_swap_1) := ⟨rfl, rfl, rfl, by decide +kernel, rfl, by decide +kernel, by decide +kernel⟩
theorem nm_swap_1 : nmOk N_swap_1 = true := by decide +kernel
theorem nd_swap_1 : N_swap_1.Nodup := sc_swap_1.nd
abbrev A_swap_1 := (List (List Int)) × Int × Int × Unit
abbrev B_swap_1 := (List (List Int))
abbrev gp_swap_1 (cA : Ad) (pn : Nat → Addr) (a : A_swap_1) : List Slot := [some ⟨(kLP (fun q => q = pn 0) (kLP (fun q => q = pn 1) (kVal tInt))), a.1⟩, sv tInt a.2.1, sv tInt a.2.2.1]
abbrev gx_swap_1 (cA : Ad) (pn : Nat → Addr) (b : B_swap_1) : List Slot := [some ⟨(kLP (fun q => q = pn 0) (kLP (fun q => q = pn 1) (kVal tInt))), b⟩, none, none, none, none]
def d_swap_1 : { m : A_swap_1 → Res B_swap_1 // ∀ (P : Program) (w : World) (K : Fg) (mg : Str → Option Value) (base : Heap) (cA : Ad) (hG : Gl mg) (hX : Cf K mg cA) (pn : Nat → Addr) (a : A_swap_1),
    BJ (bdOf P w K mg base 0 N_swap_1 S_swap_1) (gp_swap_1 cA pn a ++ List.replicate 2 none) (defBody S_swap_1) (m a) (fun b => .nx (gx_swap_1 cA pn b)) } :=
  ⟨_, fun P w K mg base cA hG hX  pn a =>
    (bj_forB (κ := (kVal tInt)) 0 3 (g := fun (s5 : Unit) => [none, sv tInt a.2.1, sv tInt a.2.2.1, none, none]) (()) rfl nd_swap_1 nm_swap_1 rfl (Or.inl rfl) rfl (Or.inl rfl) (by decide) rfl (fun _ => Nat.le_of_ble_eq_true rfl) (fun _ => Nat.le_of_ble_eq_true rfl) (fun _ _ => rfl) (by exact .keep (.keep (.keep (.keep (.keep .nil))))) (fun pin6 q1 j2 (x3 : (List Int)) (xs4 : (List (List Int))) (s5 : Unit) => (bj_set 4 nd_swap_1 rfl (Or.inl rfl) (ej_imm (τ := tInt) (pj_ixL (τ := tInt) (fun _ _ => rfl) (pj_vl (kVal tInt) 3 x3 nm_swap_1 rfl (Or.inl rfl) rfl) (pj_vv tInt 1 a.2.1 nm_swap_1 rfl (Or.inl rfl) rfl)) imm_int) (fun (v7 : Int) => (bj_setIx (κ := (kVal tInt)) (xs := fun (v8 : Int) (v9 : Int) => x3) (k := fun (v9 : Int) => v9) 3 rfl (Or.inl rfl) rfl (ej_imm (τ := tInt) (pj_ixL (τ := tInt) (fun _ _ => rfl) (pj_vl (kVal tInt) 3 x3 nm_swap_1 rfl (Or.inl rfl) rfl) (pj_vv tInt 2 a.2.2.1 nm_swap_1 rfl (Or.inl rfl) rfl)) imm_int) (fun (v8 : Int) => (ej_imm (τ := tInt) (pj_vv tInt 1 a.2.1 nm_swap_1 rfl (Or.inl rfl) rfl) imm_int)) (fun _ _ => rfl) (fun (v8 : Int) (v9 : Int) (v10 : (List Int)) => (bj_setIx (κ := (kVal tInt)) (xs := fun (v11 : Int) (v12 : Int) => v10) (k := fun (v12 : Int) => v12) 3 rfl (Or.inl rfl) rfl (ej_imm (τ := tInt) (pj_vv tInt 4 v7 nm_swap_1 rfl (Or.inl rfl) rfl) imm_int) (fun (v11 : Int) => (ej_imm (τ := tInt) (pj_vv tInt 2 a.2.2.1 nm_swap_1 rfl (Or.inl rfl) rfl) imm_int)) (fun _ _ => rfl) (fun (v11 : Int) (v12 : Int) (v13 : (List Int)) => (bj_nil (G' := [some ⟨kHole pin6 q1 j2 (kLP (fun q => q = pn 1) (kVal tInt)), xs4⟩, sv tInt a.2.1, sv tInt a.2.2.1, some ⟨(kLP (fun a => a = q1 ∧ (fun q => q = pn 1) a) (kVal tInt)), v13⟩, none]) (a := (v13, ())) (by exact .keep (.keep (.keep (.keep (.drop .nil))))) rfl)))))))) (fun (xs14 : (List (List Int))) (s15 : Unit) => (bj_nil (G' := [some ⟨(kLP (fun q => q = pn 0) (kLP (fun q => q = pn 1) (kVal tInt))), xs14⟩, none, none, none, none]) (a := xs14) (by exact .keep (.drop (.drop (.keep (.keep .nil))))) rfl)))⟩
abbrev m_swap_1 : A_swap_1 → Res B_swap_1 := d_swap_1.1
abbrev sp_swap_1 (K : Fg) (mg : Str → Option Value) (cA : Ad) : Sp := SpOf K mg 3 (gp_swap_1 cA) m_swap_1 (gx_swap_1 cA) (kVal tNone) (fun _ => ())

abbrev S_bent : Stmt := topS 25
abbrev N_bent : List Str := ["numbers", "rows", "order", "way", "a", "b", "c", "bent", "first", "second", "held", "row", "x", "thing"]
theorem sc_bent : FnScope N_bent ["numbers", "rows"] (defScope S_bent) := ⟨rfl, rfl, rfl, by decide +kernel, rfl, by decide +kernel, by decide +kernel⟩
theorem nm_bent : nmOk N_bent = true := by decide +kernel
theorem nd_bent : N_bent.Nodup := sc_bent.nd
abbrev A_bent := (List Int) × (List (List Int)) × Unit
abbrev B_bent := (List Int) × (List (List Int))
abbrev gp_bent (cA : Ad) (pn : Nat → Addr) (a : A_bent) : List Slot := [some ⟨(kLP (fun q => q = pn 0) (kVal tInt)), a.1⟩, sv (tList (tList tInt)) a.2.1]
abbrev gx_bent (cA : Ad) (pn : Nat → Addr) (b : B_bent) : List Slot := [some ⟨(kLP (fun q => q = pn 0) (kVal tInt)), b.1⟩, none, none, none, none, none, none, none, none, none, none, none, none, none]
def d_bent : { m : A_bent → Res B_bent // ∀ (P : Program) (w : World) (K : Fg) (mg : Str → Option Value) (base : Heap) (cA : Ad) (hG : Gl mg) (hX : Cf K mg cA) (h_take : FnG P w K mg base 1 "_law_take" ["numbers", "many"] (sp_take K mg cA)) (h_swap_1 : FnG P w K mg base 1 "_law_swap" ["rows", "c", "d"] (sp_swap_1 K mg cA)) (h_swap : FnG P w K mg base 1 "_law_swap" ["rows", "c", "d"] (sp_swap K mg cA)) (pn : Nat → Addr) (a : A_bent),
    BJ (bdOf P w K mg base 1 N_bent S_bent) (gp_bent cA pn a ++ List.replicate 12 none) (defBody S_bent) (m a) (fun b => .rt (gx_bent cA pn b) (kL (kL (kVal tInt))) b.2) } :=
  ⟨_, fun P w K mg base cA hG hX h_take h_swap_1 h_swap pn a =>
    (bj_set 2 nd_bent rfl (Or.inr rfl) (ej_imm (τ := tInt) (pj_len (sqList (tList tInt)) rfl hG.len_ (pj_vv (tList (tList tInt)) 1 a.2.1 nm_bent rfl (Or.inr (Or.inl rfl)) rfl)) imm_int) (fun (v1 : Int) => (bj_set 3 nd_bent rfl (Or.inl rfl) (ej_callM (κ := (kVal tInt)) (κr := (kVal tInt)) (arg := fun c => (a.1, c)) 0 (fnat 1 h_take (Nat.le_of_ble_eq_true rfl)) (imm_kVal imm_int) (imm_kVal imm_int) rfl rfl (Or.inl rfl) rfl (aj_cons pj_int aj_nil) (fun _ _ => rfl) (fun _ => rfl)) (fun (v2 : B_take) => (bj_set 4 nd_bent rfl (Or.inl rfl) (ej_callM (κ := (kVal tInt)) (κr := (kVal tInt)) (arg := fun c => (v2.1, c)) 0 (fnat 1 h_take (Nat.le_of_ble_eq_true rfl)) (imm_kVal imm_int) (imm_kVal imm_int) rfl rfl (Or.inl rfl) rfl (aj_cons (pj_vv tInt 2 v1 nm_bent rfl (Or.inr (Or.inl rfl)) rfl) aj_nil) (fun _ _ => rfl) (fun _ => rfl)) (fun (v3 : B_take) => (bj_set 5 nd_bent rfl (Or.inl rfl) (ej_callM (κ := (kVal tInt)) (κr := (kVal tInt)) (arg := fun c => (v3.1, c)) 0 (fnat 1 h_take (Nat.le_of_ble_eq_true rfl)) (imm_kVal imm_int) (imm_kVal imm_int) rfl rfl (Or.inl rfl) rfl (aj_cons (pj_vv tInt 2 v1 nm_bent rfl (Or.inr (Or.inl rfl)) rfl) aj_nil) (fun _ _ => rfl) (fun _ => rfl)) (fun (v4 : B_take) => (bj_set 6 nd_bent rfl (Or.inr rfl) (ej_callM (κ := (kVal tInt)) (κr := (kVal tInt)) (arg := fun c => (v4.1, c)) 0 (fnat 1 h_take (Nat.le_of_ble_eq_true rfl)) (imm_kVal imm_int) (imm_kVal imm_int) rfl rfl (Or.inl rfl) rfl (aj_cons (pj_vv tInt 2 v1 nm_bent rfl (Or.inr (Or.inl rfl)) rfl) aj_nil) (fun _ _ => rfl) (fun _ => rfl)) (fun (v5 : B_take) => (bj_setLc 7 nd_bent rfl rfl rfl rfl rfl rfl (lcj (κ := (kL (kVal tInt))) [("row", 11)] rfl (pij_list (τ := (tList tInt)) 11 nd_bent rfl (Or.inl rfl) (Or.inr rfl) (pj_vv (tList (tList tInt)) 1 a.2.1 nm_bent rfl (Or.inr (Or.inl rfl)) rfl)) (by decide) (fun x7 => tsj_nil) (fun x7 => (oj_list (sqList tInt) rfl hG.list_ (pj_vv (tList tInt) 11 x7 nm_bent rfl (Or.inl rfl) rfl)))) (imm_kLP (imm_kVal imm_int)) (fun v6 => (bj_toK (P := fun _ => True) 7 rfl (fun _ => trivial) (bj_link (κ := (kVal tInt)) 7 8 nd_bent nm_bent rfl (Or.inl rfl) rfl (Or.inr rfl) rfl (pj_vv tInt 4 v3.2 nm_bent rfl (Or.inl rfl) rfl) (fun _ _ => rfl) (fun q8 j9 => (bj_link (κ := (kVal tInt)) 7 9 nd_bent nm_bent rfl (Or.inl rfl) rfl (Or.inl rfl) rfl (pj_vv tInt 5 v4.2 nm_bent rfl (Or.inl rfl) rfl) (fun _ _ => rfl) (fun q10 j11 => (bj_rek (P' := (lkP v2.2 [] j9 j11 q8 q10)) 7 rfl (fun us h _ => ⟨h.1.2, h.2⟩) (bj_ifJF (γ := Unit) (G1 := fun _ => [some ⟨(kLP (fun q => q = pn 0) (kVal tInt)), v5.1⟩, sv (tList (tList tInt)) a.2.1, sv tInt v1, sv tInt v2.2, sv tInt v3.2, sv tInt v4.2, sv tInt v5.2, some ⟨kLK (fun _ => True) (lkP v2.2 [] j9 j11 q8 q10) (kL (kVal tInt)), v6⟩, sv (tRef q8) (), sv (tRef q10) (), none, none, none, none]) (b := fun _ => eqb true v2.2 0) (g := fun (s17 : (List Int) × (List (List Int))) => [some ⟨(kLP (fun q => q = pn 0) (kVal tInt)), s17.1⟩, sv (tList (tList tInt)) a.2.1, sv tInt v1, sv tInt v2.2, sv tInt v3.2, sv tInt v4.2, sv tInt v5.2, some ⟨kLK (fun _ => True) (lkP v2.2 [] j9 j11 q8 q10) (kL (kVal tInt)), s17.2⟩, sv (tRef q8) (), sv (tRef q10) (), none, none, none, none]) (etj_val (b0 := eqb true v2.2 0) (tj_eqs .eq scaInt (pj_vv tInt 3 v2.2 nm_bent rfl (Or.inl rfl) rfl) pj_int)) (fun _ h12 => (bj_setIxL (κ := (kVal tInt)) (xs := fun (v15 : (((List Int)) × (B_take) × Int)) => v6) 7 8 j9 (by decide) nm_bent rfl (Or.inr (Or.inl rfl)) rfl (ej_ixL (τ := tInt) (x := fun (r13 : (List Int)) => r13) (k := fun (r13 : (List Int)) (r14 : B_take) => r14.2) (fun _ _ => rfl) (ej_let (κ := (kL (kVal tInt))) (ej_ownI (κ := (kL (kVal tInt))) (oj_lst (es_cons (pj_neg pj_int) (es_cons (pj_vv tInt 2 v1 nm_bent rfl (Or.inr (Or.inl rfl)) rfl) (es_cons (pj_add (pj_vv tInt 2 v1 nm_bent rfl (Or.inr (Or.inl rfl)) rfl) pj_int) (es_cons (pj_vv tInt 5 v4.2 nm_bent rfl (Or.inl rfl) rfl) (es_nil (τ := tInt)))))) (by decide)) (imm_kLP (imm_kVal imm_int)))) (fun (r13 : (List Int)) => (ej_callM (κ := (kVal tInt)) (κr := (kVal tInt)) (arg := fun c => (v5.1, c)) 0 (fnat 1 h_take (Nat.le_of_ble_eq_true rfl)) (imm_kVal imm_int) (imm_kVal imm_int) rfl rfl (Or.inl rfl) rfl (aj_cons pj_int aj_nil) (fun _ _ => rfl) (fun _ => rfl)))) (fun (v15 : (((List Int)) × (B_take) × Int)) => (pj_vv tInt 6 v5.2 nm_bent rfl (Or.inr (Or.inl rfl)) rfl)) (fun _ => rfl) (fun _ => rfl) (fun us h => lk1 h (nlk h12)) (fun (v15 : (((List Int)) × (B_take) × Int)) (v16 : (List (List Int))) => (bj_nil (G' := [some ⟨(kLP (fun q => q = pn 0) (kVal tInt)), v15.2.1.1⟩, sv (tList (tList tInt)) a.2.1, sv tInt v1, sv tInt v2.2, sv tInt v3.2, sv tInt v4.2, sv tInt v5.2, some ⟨kLK (fun _ => True) (lkP v2.2 [] j9 j11 q8 q10) (kL (kVal tInt)), v16⟩, sv (tRef q8) (), sv (tRef q10) (), none, none, none, none]) (a := (v15.2.1.1, v16)) (by exact .keep (.keep (.keep (.keep (.keep (.keep (.keep (.keep (.keep (.keep (.keep (.keep (.keep (.keep .nil)))))))))))))) rfl)))) (fun _ _ => (bj_nil (G' := [some ⟨(kLP (fun q => q = pn 0) (kVal tInt)), v5.1⟩, sv (tList (tList tInt)) a.2.1, sv tInt v1, sv tInt v2.2, sv tInt v3.2, sv tInt v4.2, sv tInt v5.2, some ⟨kLK (fun _ => True) (lkP v2.2 [] j9 j11 q8 q10) (kL (kVal tInt)), v6⟩, sv (tRef q8) (), sv (tRef q10) (), none, none, none, none]) (a := (v5.1, v6)) (by exact .keep (.keep (.keep (.keep (.keep (.keep (.keep (.keep (.keep (.keep (.keep (.keep (.keep (.keep .nil)))))))))))))) rfl)) (fun (s17 : (List Int) × (List (List Int))) => (bj_ifJF (γ := Unit) (G1 := fun _ => [some ⟨(kLP (fun q => q = pn 0) (kVal tInt)), s17.1⟩, sv (tList (tList tInt)) a.2.1, sv tInt v1, sv tInt v2.2, sv tInt v3.2, sv tInt v4.2, sv tInt v5.2, some ⟨kLK (fun _ => True) (lkP v2.2 [] j9 j11 q8 q10) (kL (kVal tInt)), s17.2⟩, sv (tRef q8) (), sv (tRef q10) (), none, none, none, none]) (b := fun _ => eqb true v2.2 1) (g := fun (s21 : (List (List Int))) => [some ⟨(kLP (fun q => q = pn 0) (kVal tInt)), s17.1⟩, sv (tList (tList tInt)) a.2.1, sv tInt v1, sv tInt v2.2, sv tInt v3.2, sv tInt v4.2, sv tInt v5.2, some ⟨kLK (fun _ => True) (lkP v2.2 [1] j9 j11 q8 q10) (kL (kVal tInt)), s21⟩, sv (tRef q8) (), sv (tRef q10) (), none, none, none, none]) (etj_val (b0 := eqb true v2.2 1) (tj_eqs .eq scaInt (pj_vv tInt 3 v2.2 nm_bent rfl (Or.inl rfl) rfl) pj_int)) (fun _ h18 => (bj_ofK 7 rfl (bj_expr (ej_popAt (κ := (kL (kVal tInt))) (xs := fun (r19 : Int) => s17.2) (k := fun (r19 : Int) => r19) 7 rfl (Or.inl rfl) rfl (ej_imm (τ := tInt) (pj_vv tInt 4 v3.2 nm_bent rfl (Or.inl rfl) rfl) imm_int) (fun _ => rfl)) (fun (v20 : ((Int) × ((List (List Int)) × (List Int)))) => (bj_toK (P := (lkP v2.2 [1] j9 j11 q8 q10)) 7 rfl (fun us h => absurd (ylk h18) h) (bj_nil (G' := [some ⟨(kLP (fun q => q = pn 0) (kVal tInt)), s17.1⟩, sv (tList (tList tInt)) a.2.1, sv tInt v1, sv tInt v2.2, sv tInt v3.2, sv tInt v4.2, sv tInt v5.2, some ⟨kLK (fun _ => True) (lkP v2.2 [1] j9 j11 q8 q10) (kL (kVal tInt)), v20.2.1⟩, sv (tRef q8) (), sv (tRef q10) (), none, none, none, none]) (a := v20.2.1) (by exact .keep (.keep (.keep (.keep (.keep (.keep (.keep (.keep (.keep (.keep (.keep (.keep (.keep (.keep .nil)))))))))))))) rfl)))))) (fun _ _ => (bj_rek (P' := (lkP v2.2 [1] j9 j11 q8 q10)) 7 rfl (fun us h hn => h (fun m => hn (List.mem_cons_of_mem _ m))) (bj_nil (G' := [some ⟨(kLP (fun q => q = pn 0) (kVal tInt)), s17.1⟩, sv (tList (tList tInt)) a.2.1, sv tInt v1, sv tInt v2.2, sv tInt v3.2, sv tInt v4.2, sv tInt v5.2, some ⟨kLK (fun _ => True) (lkP v2.2 [1] j9 j11 q8 q10) (kL (kVal tInt)), s17.2⟩, sv (tRef q8) (), sv (tRef q10) (), none, none, none, none]) (a := s17.2) (by exact .keep (.keep (.keep (.keep (.keep (.keep (.keep (.keep (.keep (.keep (.keep (.keep (.keep (.keep .nil)))))))))))))) rfl))) (fun (s21 : (List (List Int))) => (bj_ifJF (γ := Unit) (G1 := fun _ => [some ⟨(kLP (fun q => q = pn 0) (kVal tInt)), s17.1⟩, sv (tList (tList tInt)) a.2.1, sv tInt v1, sv tInt v2.2, sv tInt v3.2, sv tInt v4.2, sv tInt v5.2, some ⟨kLK (fun _ => True) (lkP v2.2 [1] j9 j11 q8 q10) (kL (kVal tInt)), s21⟩, sv (tRef q8) (), sv (tRef q10) (), none, none, none, none]) (b := fun _ => eqb true v2.2 2) (g := fun (s26 : (List (List Int))) => [some ⟨(kLP (fun q => q = pn 0) (kVal tInt)), s17.1⟩, sv (tList (tList tInt)) a.2.1, sv tInt v1, sv tInt v2.2, sv tInt v3.2, sv tInt v4.2, sv tInt v5.2, some ⟨kLK (fun _ => True) (lkP v2.2 [1] j9 j11 q8 q10) (kL (kVal tInt)), s26⟩, sv (tRef q8) (), sv (tRef q10) (), none, none, none, none]) (etj_val (b0 := eqb true v2.2 2) (tj_eqs .eq scaInt (pj_vv tInt 3 v2.2 nm_bent rfl (Or.inl rfl) rfl) pj_int)) (fun _ h22 => (bj_lend 7 8 j9 rfl rfl (fun us h => lk1 h (nlk h22)) (fun (x23 : (List Int)) => (bj_expr (ej_popAt (κ := (kVal tInt)) (xs := fun (r24 : Int) => x23) (k := fun (r24 : Int) => r24) 8 rfl (Or.inr (Or.inl rfl)) rfl (ej_imm (τ := tInt) (pj_vv tInt 6 v5.2 nm_bent rfl (Or.inr (Or.inl rfl)) rfl) imm_int) (fun _ => rfl)) (fun (v25 : ((Int) × ((List Int) × Int))) => (bj_unlend 7 8 j9 (by decide) rfl rfl (fun _ h => h) (bj_nil (G' := [some ⟨(kLP (fun q => q = pn 0) (kVal tInt)), s17.1⟩, sv (tList (tList tInt)) a.2.1, sv tInt v1, sv tInt v2.2, sv tInt v3.2, sv tInt v4.2, sv tInt v5.2, some ⟨kLK (fun _ => True) (lkP v2.2 [1] j9 j11 q8 q10) (kL (kVal tInt)), (s21.set j9 v25.2.1)⟩, sv (tRef q8) (), sv (tRef q10) (), none, none, none, none]) (a := (s21.set j9 v25.2.1)) (by exact .keep (.keep (.keep (.keep (.keep (.keep (.keep (.keep (.keep (.keep (.keep (.keep (.keep (.keep .nil)))))))))))))) rfl))))))) (fun _ _ => (bj_nil (G' := [some ⟨(kLP (fun q => q = pn 0) (kVal tInt)), s17.1⟩, sv (tList (tList tInt)) a.2.1, sv tInt v1, sv tInt v2.2, sv tInt v3.2, sv tInt v4.2, sv tInt v5.2, some ⟨kLK (fun _ => True) (lkP v2.2 [1] j9 j11 q8 q10) (kL (kVal tInt)), s21⟩, sv (tRef q8) (), sv (tRef q10) (), none, none, none, none]) (a := s21) (by exact .keep (.keep (.keep (.keep (.keep (.keep (.keep (.keep (.keep (.keep (.keep (.keep (.keep (.keep .nil)))))))))))))) rfl)) (fun (s26 : (List (List Int))) => (bj_ifJF (γ := Unit) (G1 := fun _ => [some ⟨(kLP (fun q => q = pn 0) (kVal tInt)), s17.1⟩, sv (tList (tList tInt)) a.2.1, sv tInt v1, sv tInt v2.2, sv tInt v3.2, sv tInt v4.2, sv tInt v5.2, some ⟨kLK (fun _ => True) (lkP v2.2 [1] j9 j11 q8 q10) (kL (kVal tInt)), s26⟩, sv (tRef q8) (), sv (tRef q10) (), none, none, none, none]) (b := fun _ => eqb true v2.2 3) (g := fun (s31 : (List (List Int))) => [some ⟨(kLP (fun q => q = pn 0) (kVal tInt)), s17.1⟩, sv (tList (tList tInt)) a.2.1, sv tInt v1, sv tInt v2.2, sv tInt v3.2, sv tInt v4.2, sv tInt v5.2, some ⟨kLK (fun _ => True) (lkP v2.2 [1] j9 j11 q8 q10) (kL (kVal tInt)), s31⟩, sv (tRef q8) (), sv (tRef q10) (), none, none, none, none]) (etj_val (b0 := eqb true v2.2 3) (tj_eqs .eq scaInt (pj_vv tInt 3 v2.2 nm_bent rfl (Or.inl rfl) rfl) pj_int)) (fun _ h27 => (bj_lend 7 8 j9 rfl rfl (fun us h => lk1 h (nlk h27)) (fun (x28 : (List Int)) => (bj_expr (ej_insert (κ := (kVal tInt)) (xs := fun (r29 : Int) => x28) 8 rfl (Or.inr (Or.inl rfl)) rfl (pj_vv tInt 6 v5.2 nm_bent rfl (Or.inr (Or.inl rfl)) rfl) (ej_imm (τ := tInt) (pj_vv tInt 5 v4.2 nm_bent rfl (Or.inl rfl) rfl) imm_int) (fun _ => rfl)) (fun (v30 : ((Int) × (List Int))) => (bj_unlend 7 8 j9 (by decide) rfl rfl (fun _ h => h) (bj_nil (G' := [some ⟨(kLP (fun q => q = pn 0) (kVal tInt)), s17.1⟩, sv (tList (tList tInt)) a.2.1, sv tInt v1, sv tInt v2.2, sv tInt v3.2, sv tInt v4.2, sv tInt v5.2, some ⟨kLK (fun _ => True) (lkP v2.2 [1] j9 j11 q8 q10) (kL (kVal tInt)), (s26.set j9 v30.2)⟩, sv (tRef q8) (), sv (tRef q10) (), none, none, none, none]) (a := (s26.set j9 v30.2)) (by exact .keep (.keep (.keep (.keep (.keep (.keep (.keep (.keep (.keep (.keep (.keep (.keep (.keep (.keep .nil)))))))))))))) rfl))))))) (fun _ _ => (bj_nil (G' := [some ⟨(kLP (fun q => q = pn 0) (kVal tInt)), s17.1⟩, sv (tList (tList tInt)) a.2.1, sv tInt v1, sv tInt v2.2, sv tInt v3.2, sv tInt v4.2, sv tInt v5.2, some ⟨kLK (fun _ => True) (lkP v2.2 [1] j9 j11 q8 q10) (kL (kVal tInt)), s26⟩, sv (tRef q8) (), sv (tRef q10) (), none, none, none, none]) (a := s26) (by exact .keep (.keep (.keep (.keep (.keep (.keep (.keep (.keep (.keep (.keep (.keep (.keep (.keep (.keep .nil)))))))))))))) rfl)) (fun (s31 : (List (List Int))) => (bj_ifJF (γ := Unit) (G1 := fun _ => [some ⟨(kLP (fun q => q = pn 0) (kVal tInt)), s17.1⟩, sv (tList (tList tInt)) a.2.1, sv tInt v1, sv tInt v2.2, sv tInt v3.2, sv tInt v4.2, sv tInt v5.2, some ⟨kLK (fun _ => True) (lkP v2.2 [1] j9 j11 q8 q10) (kL (kVal tInt)), s31⟩, sv (tRef q8) (), sv (tRef q10) (), none, none, none, none]) (b := fun _ => eqb true v2.2 4) (g := fun (s35 : (List (List Int))) => [some ⟨(kLP (fun q => q = pn 0) (kVal tInt)), s17.1⟩, sv (tList (tList tInt)) a.2.1, sv tInt v1, sv tInt v2.2, sv tInt v3.2, sv tInt v4.2, sv tInt v5.2, some ⟨kLK (fun _ => True) (lkP v2.2 [4, 1] j9 j11 q8 q10) (kL (kVal tInt)), s35⟩, sv (tRef q8) (), sv (tRef q10) (), none, none, none, none]) (etj_val (b0 := eqb true v2.2 4) (tj_eqs .eq scaInt (pj_vv tInt 3 v2.2 nm_bent rfl (Or.inl rfl) rfl) pj_int)) (fun _ h32 => (bj_expr (ej_appendK (κ := (kL (kVal tInt))) (xs := fun (r33 : (List Int)) => s31) 7 rfl (Or.inl rfl) rfl (ej_ownI (κ := (kL (kVal tInt))) (oj_list (sqList tInt) rfl hG.list_ (pj_link (κ := (kL (kVal tInt))) 7 8 j9 s31 nm_bent rfl (Or.inr (Or.inl rfl)) rfl rfl (fun us h => lk1 h (nlk h32)))) (imm_kLP (imm_kVal imm_int))) (fun _ => rfl)) (fun (v34 : ((List Int)) × (List (List Int))) => (bj_toK (P := (lkP v2.2 [4, 1] j9 j11 q8 q10)) 7 rfl (fun us h => absurd (ylk h32) h) (bj_nil (G' := [some ⟨(kLP (fun q => q = pn 0) (kVal tInt)), s17.1⟩, sv (tList (tList tInt)) a.2.1, sv tInt v1, sv tInt v2.2, sv tInt v3.2, sv tInt v4.2, sv tInt v5.2, some ⟨kLK (fun _ => True) (lkP v2.2 [4, 1] j9 j11 q8 q10) (kL (kVal tInt)), v34.2⟩, sv (tRef q8) (), sv (tRef q10) (), none, none, none, none]) (a := v34.2) (by exact .keep (.keep (.keep (.keep (.keep (.keep (.keep (.keep (.keep (.keep (.keep (.keep (.keep (.keep .nil)))))))))))))) rfl))))) (fun _ _ => (bj_rek (P' := (lkP v2.2 [4, 1] j9 j11 q8 q10)) 7 rfl (fun us h hn => h (fun m => hn (List.mem_cons_of_mem _ m))) (bj_nil (G' := [some ⟨(kLP (fun q => q = pn 0) (kVal tInt)), s17.1⟩, sv (tList (tList tInt)) a.2.1, sv tInt v1, sv tInt v2.2, sv tInt v3.2, sv tInt v4.2, sv tInt v5.2, some ⟨kLK (fun _ => True) (lkP v2.2 [4, 1] j9 j11 q8 q10) (kL (kVal tInt)), s31⟩, sv (tRef q8) (), sv (tRef q10) (), none, none, none, none]) (a := s31) (by exact .keep (.keep (.keep (.keep (.keep (.keep (.keep (.keep (.keep (.keep (.keep (.keep (.keep (.keep .nil)))))))))))))) rfl))) (fun (s35 : (List (List Int))) => (bj_ifJF (γ := Unit) (G1 := fun _ => [some ⟨(kLP (fun q => q = pn 0) (kVal tInt)), s17.1⟩, sv (tList (tList tInt)) a.2.1, sv tInt v1, sv tInt v2.2, sv tInt v3.2, sv tInt v4.2, sv tInt v5.2, some ⟨kLK (fun _ => True) (lkP v2.2 [4, 1] j9 j11 q8 q10) (kL (kVal tInt)), s35⟩, sv (tRef q8) (), sv (tRef q10) (), none, none, none, none]) (b := fun _ => eqb true v2.2 5) (g := fun (s40 : (List (List Int))) => [some ⟨(kLP (fun q => q = pn 0) (kVal tInt)), s17.1⟩, sv (tList (tList tInt)) a.2.1, sv tInt v1, sv tInt v2.2, sv tInt v3.2, sv tInt v4.2, sv tInt v5.2, some ⟨kLK (fun _ => True) (lkP v2.2 [5, 4, 1] j9 j11 q8 q10) (kL (kVal tInt)), s40⟩, sv (tRef q8) (), sv (tRef q10) (), none, none, none, none]) (etj_val (b0 := eqb true v2.2 5) (tj_eqs .eq scaInt (pj_vv tInt 3 v2.2 nm_bent rfl (Or.inl rfl) rfl) pj_int)) (fun _ h36 => (bj_setIxOut (κ := (kVal tInt)) (xs := fun (v37 : (List Int)) => s35) 7 8 j9 (by decide) nm_bent rfl (Or.inl rfl) rfl (ej_ownI (κ := (kL (kVal tInt))) (oj_list (sqList tInt) rfl hG.list_ (pj_link (κ := (kL (kVal tInt))) 7 9 j11 s35 nm_bent rfl (Or.inl rfl) rfl rfl (fun us h => lk2 h (nlk h36)))) (imm_kLP (imm_kVal imm_int))) (fun (v37 : (List Int)) => (pj_vv tInt 4 v3.2 nm_bent rfl (Or.inl rfl) rfl)) (fun _ => rfl) (fun _ => rfl) (fun us h => lk1 h (nlk h36)) (fun (v37 : (List Int)) (v38 : (List (List Int))) (v39 : (List Int)) => (bj_toK (P := (lkP v2.2 [5, 4, 1] j9 j11 q8 q10)) 7 rfl (fun us h => absurd (ylk h36) h) (bj_toRef (q := q8) 8 rfl (fun _ h => h.1) (bj_nil (G' := [some ⟨(kLP (fun q => q = pn 0) (kVal tInt)), s17.1⟩, sv (tList (tList tInt)) a.2.1, sv tInt v1, sv tInt v2.2, sv tInt v3.2, sv tInt v4.2, sv tInt v5.2, some ⟨kLK (fun _ => True) (lkP v2.2 [5, 4, 1] j9 j11 q8 q10) (kL (kVal tInt)), v38⟩, sv (tRef q8) (), sv (tRef q10) (), none, none, none, none]) (a := v38) (by exact .keep (.keep (.keep (.keep (.keep (.keep (.keep (.keep (.keep (.keep (.keep (.keep (.keep (.keep .nil)))))))))))))) rfl)))))) (fun _ _ => (bj_rek (P' := (lkP v2.2 [5, 4, 1] j9 j11 q8 q10)) 7 rfl (fun us h hn => h (fun m => hn (List.mem_cons_of_mem _ m))) (bj_nil (G' := [some ⟨(kLP (fun q => q = pn 0) (kVal tInt)), s17.1⟩, sv (tList (tList tInt)) a.2.1, sv tInt v1, sv tInt v2.2, sv tInt v3.2, sv tInt v4.2, sv tInt v5.2, some ⟨kLK (fun _ => True) (lkP v2.2 [5, 4, 1] j9 j11 q8 q10) (kL (kVal tInt)), s35⟩, sv (tRef q8) (), sv (tRef q10) (), none, none, none, none]) (a := s35) (by exact .keep (.keep (.keep (.keep (.keep (.keep (.keep (.keep (.keep (.keep (.keep (.keep (.keep (.keep .nil)))))))))))))) rfl))) (fun (s40 : (List (List Int))) => (bj_ifJF (γ := Unit) (G1 := fun _ => [some ⟨(kLP (fun q => q = pn 0) (kVal tInt)), s17.1⟩, sv (tList (tList tInt)) a.2.1, sv tInt v1, sv tInt v2.2, sv tInt v3.2, sv tInt v4.2, sv tInt v5.2, some ⟨kLK (fun _ => True) (lkP v2.2 [5, 4, 1] j9 j11 q8 q10) (kL (kVal tInt)), s40⟩, sv (tRef q8) (), sv (tRef q10) (), none, none, none, none]) (b := fun _ => eqb true v2.2 6) (g := fun (s44 : (List (List Int))) => [some ⟨(kLP (fun q => q = pn 0) (kVal tInt)), s17.1⟩, sv (tList (tList tInt)) a.2.1, sv tInt v1, sv tInt v2.2, sv tInt v3.2, sv tInt v4.2, sv tInt v5.2, some ⟨kLK (fun _ => True) (lkP v2.2 [5, 4, 1] j9 j11 q8 q10) (kL (kVal tInt)), s44⟩, sv (tRef q8) (), sv (tRef q10) (), none, none, none, none]) (etj_val (b0 := eqb true v2.2 6) (tj_eqs .eq scaInt (pj_vv tInt 3 v2.2 nm_bent rfl (Or.inl rfl) rfl) pj_int)) (fun _ h41 => (bj_lend 7 8 j9 rfl rfl (fun us h => lk1 h (nlk h41)) (fun (x42 : (List Int)) => (bj_expr (ej_callL1 (κ := (kVal tInt)) (κr := (kVal tNone)) (arg := fun c => ([x42], c)) 8 (fnat 1 h_swap_1 (Nat.le_of_ble_eq_true rfl)) rfl rfl (Or.inr (Or.inl rfl)) rfl (aj_cons (pj_vv tInt 5 v4.2 nm_bent rfl (Or.inl rfl) rfl) (aj_cons (pj_vv tInt 6 v5.2 nm_bent rfl (Or.inr (Or.inl rfl)) rfl) aj_nil)) (fun _ _ => rfl) (fun _ => rfl)) (fun (v43 : B_swap_1 × (List Int)) => (bj_unlend 7 8 j9 (by decide) rfl rfl (fun _ h => h) (bj_nil (G' := [some ⟨(kLP (fun q => q = pn 0) (kVal tInt)), s17.1⟩, sv (tList (tList tInt)) a.2.1, sv tInt v1, sv tInt v2.2, sv tInt v3.2, sv tInt v4.2, sv tInt v5.2, some ⟨kLK (fun _ => True) (lkP v2.2 [5, 4, 1] j9 j11 q8 q10) (kL (kVal tInt)), (s40.set j9 v43.2)⟩, sv (tRef q8) (), sv (tRef q10) (), none, none, none, none]) (a := (s40.set j9 v43.2)) (by exact .keep (.keep (.keep (.keep (.keep (.keep (.keep (.keep (.keep (.keep (.keep (.keep (.keep (.keep .nil)))))))))))))) rfl))))))) (fun _ _ => (bj_nil (G' := [some ⟨(kLP (fun q => q = pn 0) (kVal tInt)), s17.1⟩, sv (tList (tList tInt)) a.2.1, sv tInt v1, sv tInt v2.2, sv tInt v3.2, sv tInt v4.2, sv tInt v5.2, some ⟨kLK (fun _ => True) (lkP v2.2 [5, 4, 1] j9 j11 q8 q10) (kL (kVal tInt)), s40⟩, sv (tRef q8) (), sv (tRef q10) (), none, none, none, none]) (a := s40) (by exact .keep (.keep (.keep (.keep (.keep (.keep (.keep (.keep (.keep (.keep (.keep (.keep (.keep (.keep .nil)))))))))))))) rfl)) (fun (s44 : (List (List Int))) => (bj_ifJF (γ := Unit) (G1 := fun _ => [some ⟨(kLP (fun q => q = pn 0) (kVal tInt)), s17.1⟩, sv (tList (tList tInt)) a.2.1, sv tInt v1, sv tInt v2.2, sv tInt v3.2, sv tInt v4.2, sv tInt v5.2, some ⟨kLK (fun _ => True) (lkP v2.2 [5, 4, 1] j9 j11 q8 q10) (kL (kVal tInt)), s44⟩, sv (tRef q8) (), sv (tRef q10) (), none, none, none, none]) (b := fun _ => eqb true v2.2 7) (g := fun (s51 : (List (List Int))) => [some ⟨(kLP (fun q => q = pn 0) (kVal tInt)), s17.1⟩, sv (tList (tList tInt)) a.2.1, sv tInt v1, sv tInt v2.2, sv tInt v3.2, sv tInt v4.2, sv tInt v5.2, some ⟨kLK (fun _ => True) (lkP v2.2 [5, 4, 1] j9 j11 q8 q10) (kL (kVal tInt)), s51⟩, sv (tRef q8) (), sv (tRef q10) (), none, none, none, none]) (etj_val (b0 := eqb true v2.2 7) (tj_eqs .eq scaInt (pj_vv tInt 3 v2.2 nm_bent rfl (Or.inl rfl) rfl) pj_int)) (fun _ h45 => (bj_set 10 nd_bent rfl (Or.inl rfl) (ej_imm (τ := tInt) (pj_ixL (τ := tInt) (fun _ _ => rfl) (pj_link (κ := (kL (kVal tInt))) 7 8 j9 s44 nm_bent rfl (Or.inr (Or.inl rfl)) rfl rfl (fun us h => lk1 h (nlk h45))) (pj_vv tInt 6 v5.2 nm_bent rfl (Or.inr (Or.inl rfl)) rfl)) imm_int) (fun (v46 : Int) => (bj_setIxL (κ := (kVal tInt)) (xs := fun (v47 : Int) => s44) 7 8 j9 (by decide) nm_bent rfl (Or.inr (Or.inl rfl)) rfl (ej_imm (τ := tInt) (pj_ixL (τ := tInt) (fun _ _ => rfl) (pj_link (κ := (kL (kVal tInt))) 7 9 j11 s44 nm_bent rfl (Or.inl rfl) rfl rfl (fun us h => lk2 h (nlk h45))) (pj_vv tInt 6 v5.2 nm_bent rfl (Or.inr (Or.inl rfl)) rfl)) imm_int) (fun (v47 : Int) => (pj_vv tInt 6 v5.2 nm_bent rfl (Or.inr (Or.inl rfl)) rfl)) (fun _ => rfl) (fun _ => rfl) (fun us h => lk1 h (nlk h45)) (fun (v47 : Int) (v48 : (List (List Int))) => (bj_setIxL (κ := (kVal tInt)) (xs := fun (v49 : Int) => v48) 7 9 j11 (by decide) nm_bent rfl (Or.inl rfl) rfl (ej_imm (τ := tInt) (pj_vv tInt 10 v46 nm_bent rfl (Or.inl rfl) rfl) imm_int) (fun (v49 : Int) => (pj_vv tInt 6 v5.2 nm_bent rfl (Or.inr (Or.inl rfl)) rfl)) (fun _ => rfl) (fun _ => rfl) (fun us h => lk2 h (nlk h45)) (fun (v49 : Int) (v50 : (List (List Int))) => (bj_nil (G' := [some ⟨(kLP (fun q => q = pn 0) (kVal tInt)), s17.1⟩, sv (tList (tList tInt)) a.2.1, sv tInt v1, sv tInt v2.2, sv tInt v3.2, sv tInt v4.2, sv tInt v5.2, some ⟨kLK (fun _ => True) (lkP v2.2 [5, 4, 1] j9 j11 q8 q10) (kL (kVal tInt)), v50⟩, sv (tRef q8) (), sv (tRef q10) (), none, none, none, none]) (a := v50) (by exact .keep (.keep (.keep (.keep (.keep (.keep (.keep (.keep (.keep (.keep (.drop (.keep (.keep (.keep .nil)))))))))))))) rfl)))))))) (fun _ _ => (bj_nil (G' := [some ⟨(kLP (fun q => q = pn 0) (kVal tInt)), s17.1⟩, sv (tList (tList tInt)) a.2.1, sv tInt v1, sv tInt v2.2, sv tInt v3.2, sv tInt v4.2, sv tInt v5.2, some ⟨kLK (fun _ => True) (lkP v2.2 [5, 4, 1] j9 j11 q8 q10) (kL (kVal tInt)), s44⟩, sv (tRef q8) (), sv (tRef q10) (), none, none, none, none]) (a := s44) (by exact .keep (.keep (.keep (.keep (.keep (.keep (.keep (.keep (.keep (.keep (.keep (.keep (.keep (.keep .nil)))))))))))))) rfl)) (fun (s51 : (List (List Int))) => (bj_ifJF (γ := Unit) (G1 := fun _ => [some ⟨(kLP (fun q => q = pn 0) (kVal tInt)), s17.1⟩, sv (tList (tList tInt)) a.2.1, sv tInt v1, sv tInt v2.2, sv tInt v3.2, sv tInt v4.2, sv tInt v5.2, some ⟨kLK (fun _ => True) (lkP v2.2 [5, 4, 1] j9 j11 q8 q10) (kL (kVal tInt)), s51⟩, sv (tRef q8) (), sv (tRef q10) (), none, none, none, none]) (b := fun _ => eqb true v2.2 8) (g := fun (s55 : (List (List Int))) => [some ⟨(kLP (fun q => q = pn 0) (kVal tInt)), s17.1⟩, sv (tList (tList tInt)) a.2.1, sv tInt v1, sv tInt v2.2, sv tInt v3.2, sv tInt v4.2, sv tInt v5.2, some ⟨kLK (fun _ => True) (lkP v2.2 [8, 5, 4, 1] j9 j11 q8 q10) (kL (kVal tInt)), s55⟩, sv (tRef q8) (), sv (tRef q10) (), none, none, none, none]) (etj_val (b0 := eqb true v2.2 8) (tj_eqs .eq scaInt (pj_vv tInt 3 v2.2 nm_bent rfl (Or.inl rfl) rfl) pj_int)) (fun _ h52 => (bj_setLc 7 nd_bent rfl rfl rfl rfl rfl rfl (lcj (κ := (kL (kVal tInt))) [("row", 11)] rfl (pij_list (τ := (tList tInt)) 11 nd_bent rfl (Or.inl rfl) (Or.inr rfl) (pj_vv (tList (tList tInt)) 1 a.2.1 nm_bent rfl (Or.inr (Or.inl rfl)) rfl)) (by decide) (fun x54 => tsj_nil) (fun x54 => (oj_list (sqList tInt) rfl hG.list_ (pj_link (κ := (kL (kVal tInt))) 7 8 j9 s51 nm_bent rfl (Or.inr (Or.inl rfl)) rfl rfl (fun us h => lk1 h (nlk h52)))))) (imm_kLP (imm_kVal imm_int)) (fun v53 => (bj_toK (P := (lkP v2.2 [8, 5, 4, 1] j9 j11 q8 q10)) 7 rfl (fun us h => absurd (ylk h52) h) (bj_nil (G' := [some ⟨(kLP (fun q => q = pn 0) (kVal tInt)), s17.1⟩, sv (tList (tList tInt)) a.2.1, sv tInt v1, sv tInt v2.2, sv tInt v3.2, sv tInt v4.2, sv tInt v5.2, some ⟨kLK (fun _ => True) (lkP v2.2 [8, 5, 4, 1] j9 j11 q8 q10) (kL (kVal tInt)), v53⟩, sv (tRef q8) (), sv (tRef q10) (), none, none, none, none]) (a := v53) (by exact .keep (.keep (.keep (.keep (.keep (.keep (.keep (.keep (.keep (.keep (.keep (.keep (.keep (.keep .nil)))))))))))))) rfl))))) (fun _ _ => (bj_rek (P' := (lkP v2.2 [8, 5, 4, 1] j9 j11 q8 q10)) 7 rfl (fun us h hn => h (fun m => hn (List.mem_cons_of_mem _ m))) (bj_nil (G' := [some ⟨(kLP (fun q => q = pn 0) (kVal tInt)), s17.1⟩, sv (tList (tList tInt)) a.2.1, sv tInt v1, sv tInt v2.2, sv tInt v3.2, sv tInt v4.2, sv tInt v5.2, some ⟨kLK (fun _ => True) (lkP v2.2 [8, 5, 4, 1] j9 j11 q8 q10) (kL (kVal tInt)), s51⟩, sv (tRef q8) (), sv (tRef q10) (), none, none, none, none]) (a := s51) (by exact .keep (.keep (.keep (.keep (.keep (.keep (.keep (.keep (.keep (.keep (.keep (.keep (.keep (.keep .nil)))))))))))))) rfl))) (fun (s55 : (List (List Int))) => (bj_ifJF (γ := Unit) (G1 := fun _ => [some ⟨(kLP (fun q => q = pn 0) (kVal tInt)), s17.1⟩, sv (tList (tList tInt)) a.2.1, sv tInt v1, sv tInt v2.2, sv tInt v3.2, sv tInt v4.2, sv tInt v5.2, some ⟨kLK (fun _ => True) (lkP v2.2 [8, 5, 4, 1] j9 j11 q8 q10) (kL (kVal tInt)), s55⟩, sv (tRef q8) (), sv (tRef q10) (), none, none, none, none]) (b := fun _ => eqb true v2.2 9) (g := fun (s60 : (List (List Int))) => [some ⟨(kLP (fun q => q = pn 0) (kVal tInt)), s17.1⟩, sv (tList (tList tInt)) a.2.1, sv tInt v1, sv tInt v2.2, sv tInt v3.2, sv tInt v4.2, sv tInt v5.2, some ⟨kLK (fun _ => True) (lkP v2.2 [9, 8, 5, 4, 1] j9 j11 q8 q10) (kL (kVal tInt)), s60⟩, sv (tRef q8) (), sv (tRef q10) (), none, none, none, none]) (etj_val (b0 := eqb true v2.2 9) (tj_eqs .eq scaInt (pj_vv tInt 3 v2.2 nm_bent rfl (Or.inl rfl) rfl) pj_int)) (fun _ h56 => (bj_setLc 7 nd_bent rfl rfl rfl rfl rfl rfl (lcj (κ := (kL (kVal tInt))) [("row", 11)] rfl (pij_list (τ := (tList tInt)) 11 nd_bent rfl (Or.inr rfl) (Or.inl rfl) (pj_vv (tList (tList tInt)) 1 a.2.1 nm_bent rfl (Or.inr (Or.inl rfl)) rfl)) (by decide) (fun x58 => tsj_nil) (fun x58 => (oj_lc nd_bent rfl (lcj (κ := (kVal tInt)) [("x", 12)] rfl (pij_list (τ := (tList tInt)) 12 nd_bent rfl (Or.inl rfl) (Or.inr rfl) (pj_vv (tList (tList tInt)) 1 a.2.1 nm_bent rfl (Or.inr (Or.inl rfl)) rfl)) (by decide) (fun x59 => tsj_nil) (fun x59 => (oj_of_pj (pj_ixL (τ := tInt) (fun _ _ => rfl) (pj_vv (tList tInt) 11 x58 nm_bent rfl (Or.inr (Or.inl rfl)) rfl) (pj_vv tInt 6 v5.2 nm_bent rfl (Or.inr (Or.inl rfl)) rfl)))))))) (imm_kLP (imm_kVal imm_int)) (fun v57 => (bj_toK (P := (lkP v2.2 [9, 8, 5, 4, 1] j9 j11 q8 q10)) 7 rfl (fun us h => absurd (ylk h56) h) (bj_nil (G' := [some ⟨(kLP (fun q => q = pn 0) (kVal tInt)), s17.1⟩, sv (tList (tList tInt)) a.2.1, sv tInt v1, sv tInt v2.2, sv tInt v3.2, sv tInt v4.2, sv tInt v5.2, some ⟨kLK (fun _ => True) (lkP v2.2 [9, 8, 5, 4, 1] j9 j11 q8 q10) (kL (kVal tInt)), v57⟩, sv (tRef q8) (), sv (tRef q10) (), none, none, none, none]) (a := v57) (by exact .keep (.keep (.keep (.keep (.keep (.keep (.keep (.keep (.keep (.keep (.keep (.keep (.keep (.keep .nil)))))))))))))) rfl))))) (fun _ _ => (bj_rek (P' := (lkP v2.2 [9, 8, 5, 4, 1] j9 j11 q8 q10)) 7 rfl (fun us h hn => h (fun m => hn (List.mem_cons_of_mem _ m))) (bj_nil (G' := [some ⟨(kLP (fun q => q = pn 0) (kVal tInt)), s17.1⟩, sv (tList (tList tInt)) a.2.1, sv tInt v1, sv tInt v2.2, sv tInt v3.2, sv tInt v4.2, sv tInt v5.2, some ⟨kLK (fun _ => True) (lkP v2.2 [9, 8, 5, 4, 1] j9 j11 q8 q10) (kL (kVal tInt)), s55⟩, sv (tRef q8) (), sv (tRef q10) (), none, none, none, none]) (a := s55) (by exact .keep (.keep (.keep (.keep (.keep (.keep (.keep (.keep (.keep (.keep (.keep (.keep (.keep (.keep .nil)))))))))))))) rfl))) (fun (s60 : (List (List Int))) => (bj_ifJF (γ := Unit) (G1 := fun _ => [some ⟨(kLP (fun q => q = pn 0) (kVal tInt)), s17.1⟩, sv (tList (tList tInt)) a.2.1, sv tInt v1, sv tInt v2.2, sv tInt v3.2, sv tInt v4.2, sv tInt v5.2, some ⟨kLK (fun _ => True) (lkP v2.2 [9, 8, 5, 4, 1] j9 j11 q8 q10) (kL (kVal tInt)), s60⟩, sv (tRef q8) (), sv (tRef q10) (), none, none, none, none]) (b := fun _ => eqb true v2.2 10) (g := fun (s65 : (List (List Int))) => [some ⟨(kLP (fun q => q = pn 0) (kVal tInt)), s17.1⟩, sv (tList (tList tInt)) a.2.1, sv tInt v1, sv tInt v2.2, sv tInt v3.2, sv tInt v4.2, sv tInt v5.2, some ⟨kLK (fun _ => True) (lkP v2.2 [10, 9, 8, 5, 4, 1] j9 j11 q8 q10) (kL (kVal tInt)), s65⟩, sv (tRef q8) (), sv (tRef q10) (), none, none, none, none]) (etj_val (b0 := eqb true v2.2 10) (tj_eqs .eq scaInt (pj_vv tInt 3 v2.2 nm_bent rfl (Or.inl rfl) rfl) pj_int)) (fun _ h61 => (bj_setLc 7 nd_bent rfl rfl rfl rfl rfl rfl (lcj (κ := (kL (kVal tInt))) [("row", 11)] rfl (pij_list (τ := (tList tInt)) 11 nd_bent rfl (Or.inl rfl) (Or.inr rfl) (pj_vv (tList (tList tInt)) 1 a.2.1 nm_bent rfl (Or.inr (Or.inl rfl)) rfl)) (by decide) (fun x63 => tsj_nil) (fun x63 => (oj_lc nd_bent rfl (lcj (κ := (kVal tInt)) [("thing", 13)] rfl (pij_list (τ := tInt) 13 nd_bent rfl (Or.inl rfl) (Or.inr rfl) (pj_vv (tList tInt) 11 x63 nm_bent rfl (Or.inl rfl) rfl)) (by decide) (fun x64 => tsj_nil) (fun x64 => (oj_of_pj (pj_add (pj_vv tInt 13 x64 nm_bent rfl (Or.inl rfl) rfl) pj_int))))))) (imm_kLP (imm_kVal imm_int)) (fun v62 => (bj_toK (P := (lkP v2.2 [10, 9, 8, 5, 4, 1] j9 j11 q8 q10)) 7 rfl (fun us h => absurd (ylk h61) h) (bj_nil (G' := [some ⟨(kLP (fun q => q = pn 0) (kVal tInt)), s17.1⟩, sv (tList (tList tInt)) a.2.1, sv tInt v1, sv tInt v2.2, sv tInt v3.2, sv tInt v4.2, sv tInt v5.2, some ⟨kLK (fun _ => True) (lkP v2.2 [10, 9, 8, 5, 4, 1] j9 j11 q8 q10) (kL (kVal tInt)), v62⟩, sv (tRef q8) (), sv (tRef q10) (), none, none, none, none]) (a := v62) (by exact .keep (.keep (.keep (.keep (.keep (.keep (.keep (.keep (.keep (.keep (.keep (.keep (.keep (.keep .nil)))))))))))))) rfl))))) (fun _ _ => (bj_rek (P' := (lkP v2.2 [10, 9, 8, 5, 4, 1] j9 j11 q8 q10)) 7 rfl (fun us h hn => h (fun m => hn (List.mem_cons_of_mem _ m))) (bj_nil (G' := [some ⟨(kLP (fun q => q = pn 0) (kVal tInt)), s17.1⟩, sv (tList (tList tInt)) a.2.1, sv tInt v1, sv tInt v2.2, sv tInt v3.2, sv tInt v4.2, sv tInt v5.2, some ⟨kLK (fun _ => True) (lkP v2.2 [10, 9, 8, 5, 4, 1] j9 j11 q8 q10) (kL (kVal tInt)), s60⟩, sv (tRef q8) (), sv (tRef q10) (), none, none, none, none]) (a := s60) (by exact .keep (.keep (.keep (.keep (.keep (.keep (.keep (.keep (.keep (.keep (.keep (.keep (.keep (.keep .nil)))))))))))))) rfl))) (fun (s65 : (List (List Int))) => (bj_ifJF (γ := Unit) (G1 := fun _ => [some ⟨(kLP (fun q => q = pn 0) (kVal tInt)), s17.1⟩, sv (tList (tList tInt)) a.2.1, sv tInt v1, sv tInt v2.2, sv tInt v3.2, sv tInt v4.2, sv tInt v5.2, some ⟨kLK (fun _ => True) (lkP v2.2 [10, 9, 8, 5, 4, 1] j9 j11 q8 q10) (kL (kVal tInt)), s65⟩, sv (tRef q8) (), sv (tRef q10) (), none, none, none, none]) (b := fun _ => eqb true v2.2 11) (g := fun (s70 : (List (List Int))) => [some ⟨(kLP (fun q => q = pn 0) (kVal tInt)), s17.1⟩, sv (tList (tList tInt)) a.2.1, sv tInt v1, sv tInt v2.2, sv tInt v3.2, sv tInt v4.2, sv tInt v5.2, some ⟨kLK (fun _ => True) (lkP v2.2 [11, 10, 9, 8, 5, 4, 1] j9 j11 q8 q10) (kL (kVal tInt)), s70⟩, sv (tRef q8) (), sv (tRef q10) (), none, none, none, none]) (etj_val (b0 := eqb true v2.2 11) (tj_eqs .eq scaInt (pj_vv tInt 3 v2.2 nm_bent rfl (Or.inl rfl) rfl) pj_int)) (fun _ h66 => (bj_setLc 7 nd_bent rfl rfl rfl rfl rfl rfl (lcj (κ := (kL (kVal tInt))) [("row", 11)] rfl (pij_list (τ := (tList tInt)) 11 nd_bent rfl (Or.inl rfl) (Or.inr rfl) (pj_vv (tList (tList tInt)) 1 a.2.1 nm_bent rfl (Or.inr (Or.inl rfl)) rfl)) (by decide) (fun x68 => tsj_nil) (fun x68 => (oj_lc nd_bent rfl (lcj (κ := (kVal tInt)) [("thing", 13)] rfl (pij_list (τ := tInt) 13 nd_bent rfl (Or.inl rfl) (Or.inr rfl) (pj_vv (tList tInt) 11 x68 nm_bent rfl (Or.inl rfl) rfl)) (by decide) (fun x69 => tsj_nil) (fun x69 => (oj_of_pj (pj_if (tj_eqs .eq scaInt (pj_vv tInt 13 x69 nm_bent rfl (Or.inl rfl) rfl) (pj_sub (pj_vv tInt 2 v1 nm_bent rfl (Or.inr (Or.inl rfl)) rfl) pj_int)) (pj_neg pj_int) (pj_vv tInt 13 x69 nm_bent rfl (Or.inl rfl) rfl)))))))) (imm_kLP (imm_kVal imm_int)) (fun v67 => (bj_toK (P := (lkP v2.2 [11, 10, 9, 8, 5, 4, 1] j9 j11 q8 q10)) 7 rfl (fun us h => absurd (ylk h66) h) (bj_nil (G' := [some ⟨(kLP (fun q => q = pn 0) (kVal tInt)), s17.1⟩, sv (tList (tList tInt)) a.2.1, sv tInt v1, sv tInt v2.2, sv tInt v3.2, sv tInt v4.2, sv tInt v5.2, some ⟨kLK (fun _ => True) (lkP v2.2 [11, 10, 9, 8, 5, 4, 1] j9 j11 q8 q10) (kL (kVal tInt)), v67⟩, sv (tRef q8) (), sv (tRef q10) (), none, none, none, none]) (a := v67) (by exact .keep (.keep (.keep (.keep (.keep (.keep (.keep (.keep (.keep (.keep (.keep (.keep (.keep (.keep .nil)))))))))))))) rfl))))) (fun _ _ => (bj_rek (P' := (lkP v2.2 [11, 10, 9, 8, 5, 4, 1] j9 j11 q8 q10)) 7 rfl (fun us h hn => h (fun m => hn (List.mem_cons_of_mem _ m))) (bj_nil (G' := [some ⟨(kLP (fun q => q = pn 0) (kVal tInt)), s17.1⟩, sv (tList (tList tInt)) a.2.1, sv tInt v1, sv tInt v2.2, sv tInt v3.2, sv tInt v4.2, sv tInt v5.2, some ⟨kLK (fun _ => True) (lkP v2.2 [11, 10, 9, 8, 5, 4, 1] j9 j11 q8 q10) (kL (kVal tInt)), s65⟩, sv (tRef q8) (), sv (tRef q10) (), none, none, none, none]) (a := s65) (by exact .keep (.keep (.keep (.keep (.keep (.keep (.keep (.keep (.keep (.keep (.keep (.keep (.keep (.keep .nil)))))))))))))) rfl))) (fun (s70 : (List (List Int))) => (bj_ifJF (γ := Unit) (G1 := fun _ => [some ⟨(kLP (fun q => q = pn 0) (kVal tInt)), s17.1⟩, sv (tList (tList tInt)) a.2.1, sv tInt v1, sv tInt v2.2, sv tInt v3.2, sv tInt v4.2, sv tInt v5.2, some ⟨kLK (fun _ => True) (lkP v2.2 [11, 10, 9, 8, 5, 4, 1] j9 j11 q8 q10) (kL (kVal tInt)), s70⟩, sv (tRef q8) (), sv (tRef q10) (), none, none, none, none]) (b := fun _ => eqb true v2.2 12) (g := fun (s74 : (List (List Int))) => [some ⟨(kLP (fun q => q = pn 0) (kVal tInt)), s17.1⟩, sv (tList (tList tInt)) a.2.1, sv tInt v1, sv tInt v2.2, sv tInt v3.2, sv tInt v4.2, sv tInt v5.2, some ⟨kLK (fun _ => True) (lkP v2.2 [12, 11, 10, 9, 8, 5, 4, 1] j9 j11 q8 q10) (kL (kVal tInt)), s74⟩, sv (tRef q8) (), sv (tRef q10) (), none, none, none, none]) (etj_val (b0 := eqb true v2.2 12) (tj_eqs .eq scaInt (pj_vv tInt 3 v2.2 nm_bent rfl (Or.inl rfl) rfl) pj_int)) (fun _ h71 => (bj_ofK 7 rfl (bj_setLc 7 nd_bent rfl rfl rfl rfl rfl rfl (lcj (κ := (kL (kVal tInt))) [("row", 11)] rfl (pij_list (τ := (tList tInt)) 11 nd_bent rfl (Or.inl rfl) (Or.inr rfl) (pj_of_oj (κ := (kL (kVal (tList tInt)))) (oj_cat (τ := (tList tInt)) (pj_of_oj (κ := (kL (kVal (tList tInt)))) (oj_slice (τ := (tList tInt)) (pj_vl (kL (kVal tInt)) 7 s70 nm_bent rfl (Or.inl rfl) rfl) po_no (po_yes (pj_vv tInt 4 v3.2 nm_bent rfl (Or.inl rfl) rfl)))) (pj_of_oj (κ := (kL (kVal (tList tInt)))) (oj_slice (τ := (tList tInt)) (pj_vl (kL (kVal tInt)) 7 s70 nm_bent rfl (Or.inl rfl) rfl) (po_yes (pj_add (pj_vv tInt 4 v3.2 nm_bent rfl (Or.inl rfl) rfl) pj_int)) po_no))))) (by decide) (fun x73 => tsj_nil) (fun x73 => (oj_cat (τ := tInt) (pj_of_oj (κ := (kL (kVal tInt))) (oj_slice (τ := tInt) (pj_vv (tList tInt) 11 x73 nm_bent rfl (Or.inl rfl) rfl) po_no (po_yes (pj_vv tInt 6 v5.2 nm_bent rfl (Or.inr (Or.inl rfl)) rfl)))) (pj_of_oj (κ := (kL (kVal tInt))) (oj_slice (τ := tInt) (pj_vv (tList tInt) 11 x73 nm_bent rfl (Or.inl rfl) rfl) (po_yes (pj_add (pj_vv tInt 6 v5.2 nm_bent rfl (Or.inr (Or.inl rfl)) rfl) pj_int)) po_no))))) (imm_kLP (imm_kVal imm_int)) (fun v72 => (bj_toK (P := (lkP v2.2 [12, 11, 10, 9, 8, 5, 4, 1] j9 j11 q8 q10)) 7 rfl (fun us h => absurd (ylk h71) h) (bj_nil (G' := [some ⟨(kLP (fun q => q = pn 0) (kVal tInt)), s17.1⟩, sv (tList (tList tInt)) a.2.1, sv tInt v1, sv tInt v2.2, sv tInt v3.2, sv tInt v4.2, sv tInt v5.2, some ⟨kLK (fun _ => True) (lkP v2.2 [12, 11, 10, 9, 8, 5, 4, 1] j9 j11 q8 q10) (kL (kVal tInt)), v72⟩, sv (tRef q8) (), sv (tRef q10) (), none, none, none, none]) (a := v72) (by exact .keep (.keep (.keep (.keep (.keep (.keep (.keep (.keep (.keep (.keep (.keep (.keep (.keep (.keep .nil)))))))))))))) rfl)))))) (fun _ _ => (bj_rek (P' := (lkP v2.2 [12, 11, 10, 9, 8, 5, 4, 1] j9 j11 q8 q10)) 7 rfl (fun us h hn => h (fun m => hn (List.mem_cons_of_mem _ m))) (bj_nil (G' := [some ⟨(kLP (fun q => q = pn 0) (kVal tInt)), s17.1⟩, sv (tList (tList tInt)) a.2.1, sv tInt v1, sv tInt v2.2, sv tInt v3.2, sv tInt v4.2, sv tInt v5.2, some ⟨kLK (fun _ => True) (lkP v2.2 [12, 11, 10, 9, 8, 5, 4, 1] j9 j11 q8 q10) (kL (kVal tInt)), s70⟩, sv (tRef q8) (), sv (tRef q10) (), none, none, none, none]) (a := s70) (by exact .keep (.keep (.keep (.keep (.keep (.keep (.keep (.keep (.keep (.keep (.keep (.keep (.keep (.keep .nil)))))))))))))) rfl))) (fun (s74 : (List (List Int))) => (bj_ifJF (γ := Unit) (G1 := fun _ => [some ⟨(kLP (fun q => q = pn 0) (kVal tInt)), s17.1⟩, sv (tList (tList tInt)) a.2.1, sv tInt v1, sv tInt v2.2, sv tInt v3.2, sv tInt v4.2, sv tInt v5.2, some ⟨kLK (fun _ => True) (lkP v2.2 [12, 11, 10, 9, 8, 5, 4, 1] j9 j11 q8 q10) (kL (kVal tInt)), s74⟩, sv (tRef q8) (), sv (tRef q10) (), none, none, none, none]) (b := fun _ => eqb true v2.2 13) (g := fun (s82 : (List (List Int))) => [some ⟨(kLP (fun q => q = pn 0) (kVal tInt)), s17.1⟩, sv (tList (tList tInt)) a.2.1, sv tInt v1, sv tInt v2.2, sv tInt v3.2, sv tInt v4.2, sv tInt v5.2, some ⟨kLK (fun _ => True) (lkP v2.2 [13, 12, 11, 10, 9, 8, 5, 4, 1] j9 j11 q8 q10) (kL (kVal tInt)), s82⟩, sv (tRef q8) (), sv (tRef q10) (), none, none, none, none]) (etj_val (b0 := eqb true v2.2 13) (tj_eqs .eq scaInt (pj_vv tInt 3 v2.2 nm_bent rfl (Or.inl rfl) rfl) pj_int)) (fun _ h75 => (bj_setIxOut (κ := (kVal tInt)) (xs := fun (v76 : (List Int)) => s74) 7 8 j9 (by decide) nm_bent rfl (Or.inl rfl) rfl (ej_ownI (κ := (kL (kVal tInt))) (oj_list (sqList tInt) rfl hG.list_ (pj_link (κ := (kL (kVal tInt))) 7 9 j11 s74 nm_bent rfl (Or.inl rfl) rfl rfl (fun us h => lk2 h (nlk h75)))) (imm_kLP (imm_kVal imm_int))) (fun (v76 : (List Int)) => (pj_vv tInt 4 v3.2 nm_bent rfl (Or.inl rfl) rfl)) (fun _ => rfl) (fun _ => rfl) (fun us h => lk1 h (nlk h75)) (fun (v76 : (List Int)) (v77 : (List (List Int))) (v78 : (List Int)) => (bj_setIx (κ := (kL (kVal tInt))) (xs := fun (v79 : (List Int)) (v80 : Int) => v77) (k := fun (v80 : Int) => v80) 7 rfl (Or.inl rfl) rfl (ej_ownI (κ := (kL (kVal tInt))) (oj_list (sqList tInt) rfl hG.list_ (pj_vl (kVal tInt) 8 v78 nm_bent rfl (Or.inr (Or.inl rfl)) rfl)) (imm_kLP (imm_kVal imm_int))) (fun (v79 : (List Int)) => (ej_imm (τ := tInt) (pj_vv tInt 5 v4.2 nm_bent rfl (Or.inl rfl) rfl) imm_int)) (fun _ _ => rfl) (fun (v79 : (List Int)) (v80 : Int) (v81 : (List (List Int))) => (bj_toK (P := (lkP v2.2 [13, 12, 11, 10, 9, 8, 5, 4, 1] j9 j11 q8 q10)) 7 rfl (fun us h => absurd (ylk h75) h) (bj_toRef (q := q8) 8 rfl (fun _ h => h.1) (bj_nil (G' := [some ⟨(kLP (fun q => q = pn 0) (kVal tInt)), s17.1⟩, sv (tList (tList tInt)) a.2.1, sv tInt v1, sv tInt v2.2, sv tInt v3.2, sv tInt v4.2, sv tInt v5.2, some ⟨kLK (fun _ => True) (lkP v2.2 [13, 12, 11, 10, 9, 8, 5, 4, 1] j9 j11 q8 q10) (kL (kVal tInt)), v81⟩, sv (tRef q8) (), sv (tRef q10) (), none, none, none, none]) (a := v81) (by exact .keep (.keep (.keep (.keep (.keep (.keep (.keep (.keep (.keep (.keep (.keep (.keep (.keep (.keep .nil)))))))))))))) rfl)))))))) (fun _ _ => (bj_rek (P' := (lkP v2.2 [13, 12, 11, 10, 9, 8, 5, 4, 1] j9 j11 q8 q10)) 7 rfl (fun us h hn => h (fun m => hn (List.mem_cons_of_mem _ m))) (bj_nil (G' := [some ⟨(kLP (fun q => q = pn 0) (kVal tInt)), s17.1⟩, sv (tList (tList tInt)) a.2.1, sv tInt v1, sv tInt v2.2, sv tInt v3.2, sv tInt v4.2, sv tInt v5.2, some ⟨kLK (fun _ => True) (lkP v2.2 [13, 12, 11, 10, 9, 8, 5, 4, 1] j9 j11 q8 q10) (kL (kVal tInt)), s74⟩, sv (tRef q8) (), sv (tRef q10) (), none, none, none, none]) (a := s74) (by exact .keep (.keep (.keep (.keep (.keep (.keep (.keep (.keep (.keep (.keep (.keep (.keep (.keep (.keep .nil)))))))))))))) rfl))) (fun (s82 : (List (List Int))) => (bj_ifJF (γ := Unit) (G1 := fun _ => [some ⟨(kLP (fun q => q = pn 0) (kVal tInt)), s17.1⟩, sv (tList (tList tInt)) a.2.1, sv tInt v1, sv tInt v2.2, sv tInt v3.2, sv tInt v4.2, sv tInt v5.2, some ⟨kLK (fun _ => True) (lkP v2.2 [13, 12, 11, 10, 9, 8, 5, 4, 1] j9 j11 q8 q10) (kL (kVal tInt)), s82⟩, sv (tRef q8) (), sv (tRef q10) (), none, none, none, none]) (b := fun _ => eqb true v2.2 14) (g := fun (s85 : (List (List Int))) => [some ⟨(kLP (fun q => q = pn 0) (kVal tInt)), s17.1⟩, sv (tList (tList tInt)) a.2.1, sv tInt v1, sv tInt v2.2, sv tInt v3.2, sv tInt v4.2, sv tInt v5.2, some ⟨kLK (fun _ => True) (lkP v2.2 [14, 13, 12, 11, 10, 9, 8, 5, 4, 1] j9 j11 q8 q10) (kL (kVal tInt)), s85⟩, sv (tRef q8) (), sv (tRef q10) (), none, none, none, none]) (etj_val (b0 := eqb true v2.2 14) (tj_eqs .eq scaInt (pj_vv tInt 3 v2.2 nm_bent rfl (Or.inl rfl) rfl) pj_int)) (fun _ h83 => (bj_ofK 7 rfl (bj_expr (ej_callM (κ := (kL (kVal tInt))) (κr := (kVal tNone)) (arg := fun c => (s82, c)) 7 (fnat 1 h_swap (Nat.le_of_ble_eq_true rfl)) (imm_kLP (imm_kVal imm_int)) (imm_kVal imm_none) rfl rfl (Or.inl rfl) rfl (aj_cons (pj_vv tInt 5 v4.2 nm_bent rfl (Or.inl rfl) rfl) (aj_cons (pj_vv tInt 6 v5.2 nm_bent rfl (Or.inr (Or.inl rfl)) rfl) aj_nil)) (fun _ _ => rfl) (fun _ => rfl)) (fun (v84 : B_swap) => (bj_toK (P := (lkP v2.2 [14, 13, 12, 11, 10, 9, 8, 5, 4, 1] j9 j11 q8 q10)) 7 rfl (fun us h => absurd (ylk h83) h) (bj_nil (G' := [some ⟨(kLP (fun q => q = pn 0) (kVal tInt)), s17.1⟩, sv (tList (tList tInt)) a.2.1, sv tInt v1, sv tInt v2.2, sv tInt v3.2, sv tInt v4.2, sv tInt v5.2, some ⟨kLK (fun _ => True) (lkP v2.2 [14, 13, 12, 11, 10, 9, 8, 5, 4, 1] j9 j11 q8 q10) (kL (kVal tInt)), v84⟩, sv (tRef q8) (), sv (tRef q10) (), none, none, none, none]) (a := v84) (by exact .keep (.keep (.keep (.keep (.keep (.keep (.keep (.keep (.keep (.keep (.keep (.keep (.keep (.keep .nil)))))))))))))) rfl)))))) (fun _ _ => (bj_rek (P' := (lkP v2.2 [14, 13, 12, 11, 10, 9, 8, 5, 4, 1] j9 j11 q8 q10)) 7 rfl (fun us h hn => h (fun m => hn (List.mem_cons_of_mem _ m))) (bj_nil (G' := [some ⟨(kLP (fun q => q = pn 0) (kVal tInt)), s17.1⟩, sv (tList (tList tInt)) a.2.1, sv tInt v1, sv tInt v2.2, sv tInt v3.2, sv tInt v4.2, sv tInt v5.2, some ⟨kLK (fun _ => True) (lkP v2.2 [14, 13, 12, 11, 10, 9, 8, 5, 4, 1] j9 j11 q8 q10) (kL (kVal tInt)), s82⟩, sv (tRef q8) (), sv (tRef q10) (), none, none, none, none]) (a := s82) (by exact .keep (.keep (.keep (.keep (.keep (.keep (.keep (.keep (.keep (.keep (.keep (.keep (.keep (.keep .nil)))))))))))))) rfl))) (fun (s85 : (List (List Int))) => (bj_ifJF (γ := Unit) (G1 := fun _ => [some ⟨(kLP (fun q => q = pn 0) (kVal tInt)), s17.1⟩, sv (tList (tList tInt)) a.2.1, sv tInt v1, sv tInt v2.2, sv tInt v3.2, sv tInt v4.2, sv tInt v5.2, some ⟨kLK (fun _ => True) (lkP v2.2 [14, 13, 12, 11, 10, 9, 8, 5, 4, 1] j9 j11 q8 q10) (kL (kVal tInt)), s85⟩, sv (tRef q8) (), sv (tRef q10) (), none, none, none, none]) (b := fun _ => eqb true v2.2 15) (g := fun (s90 : (List (List Int))) => [some ⟨(kLP (fun q => q = pn 0) (kVal tInt)), s17.1⟩, sv (tList (tList tInt)) a.2.1, sv tInt v1, sv tInt v2.2, sv tInt v3.2, sv tInt v4.2, sv tInt v5.2, some ⟨kLK (fun _ => True) (lkP v2.2 [15, 14, 13, 12, 11, 10, 9, 8, 5, 4, 1] j9 j11 q8 q10) (kL (kVal tInt)), s90⟩, sv (tRef q8) (), sv (tRef q10) (), none, none, none, none]) (etj_val (b0 := eqb true v2.2 15) (tj_eqs .eq scaInt (pj_vv tInt 3 v2.2 nm_bent rfl (Or.inl rfl) rfl) pj_int)) (fun _ h86 => (bj_setLc 7 nd_bent rfl rfl rfl rfl rfl rfl (lcj (κ := (kL (kVal tInt))) [("x", 12)] rfl (pij_rng1 12 nd_bent rfl (Or.inr rfl) (Or.inl rfl) rfl hG.range_ (pj_vv tInt 2 v1 nm_bent rfl (Or.inr (Or.inl rfl)) rfl)) (by decide) (fun x88 => tsj_nil) (fun x88 => (oj_lc nd_bent rfl (lcj (κ := (kVal tInt)) [("row", 11)] rfl (pij_list (τ := (tList tInt)) 11 nd_bent rfl (Or.inl rfl) (Or.inr rfl) (pj_vv (tList (tList tInt)) 1 a.2.1 nm_bent rfl (Or.inr (Or.inl rfl)) rfl)) (by decide) (fun x89 => tsj_nil) (fun x89 => (oj_of_pj (pj_ixL (τ := tInt) (fun _ _ => rfl) (pj_vv (tList tInt) 11 x89 nm_bent rfl (Or.inl rfl) rfl) (pj_vv tInt 12 x88 nm_bent rfl (Or.inr (Or.inl rfl)) rfl)))))))) (imm_kLP (imm_kVal imm_int)) (fun v87 => (bj_toK (P := (lkP v2.2 [15, 14, 13, 12, 11, 10, 9, 8, 5, 4, 1] j9 j11 q8 q10)) 7 rfl (fun us h => absurd (ylk h86) h) (bj_nil (G' := [some ⟨(kLP (fun q => q = pn 0) (kVal tInt)), s17.1⟩, sv (tList (tList tInt)) a.2.1, sv tInt v1, sv tInt v2.2, sv tInt v3.2, sv tInt v4.2, sv tInt v5.2, some ⟨kLK (fun _ => True) (lkP v2.2 [15, 14, 13, 12, 11, 10, 9, 8, 5, 4, 1] j9 j11 q8 q10) (kL (kVal tInt)), v87⟩, sv (tRef q8) (), sv (tRef q10) (), none, none, none, none]) (a := v87) (by exact .keep (.keep (.keep (.keep (.keep (.keep (.keep (.keep (.keep (.keep (.keep (.keep (.keep (.keep .nil)))))))))))))) rfl))))) (fun _ _ => (bj_rek (P' := (lkP v2.2 [15, 14, 13, 12, 11, 10, 9, 8, 5, 4, 1] j9 j11 q8 q10)) 7 rfl (fun us h hn => h (fun m => hn (List.mem_cons_of_mem _ m))) (bj_nil (G' := [some ⟨(kLP (fun q => q = pn 0) (kVal tInt)), s17.1⟩, sv (tList (tList tInt)) a.2.1, sv tInt v1, sv tInt v2.2, sv tInt v3.2, sv tInt v4.2, sv tInt v5.2, some ⟨kLK (fun _ => True) (lkP v2.2 [15, 14, 13, 12, 11, 10, 9, 8, 5, 4, 1] j9 j11 q8 q10) (kL (kVal tInt)), s85⟩, sv (tRef q8) (), sv (tRef q10) (), none, none, none, none]) (a := s85) (by exact .keep (.keep (.keep (.keep (.keep (.keep (.keep (.keep (.keep (.keep (.keep (.keep (.keep (.keep .nil)))))))))))))) rfl))) (fun (s90 : (List (List Int))) => (bj_ofK 7 rfl (bj_rt (fun (v91 : Unit) => gx_bent cA pn ((s17.1, s90))) (fun (v91 : Unit) => (s17.1, s90)) (ej_move (κ := (kL (kL (kVal tInt)))) 7 (x := s90) rfl (Or.inl rfl) rfl) (fun _ => rfl) (by exact fun _ => .keep (.drop (.drop (.drop (.drop (.drop (.drop (.keep (.drop (.drop (.keep (.keep (.keep (.keep .nil))))))))))))))))))))))))))))))))))))))))))))))))))))))))))))))))))⟩
abbrev m_bent : A_bent → Res B_bent := d_bent.1
abbrev sp_bent (K : Fg) (mg : Str → Option Value) (cA : Ad) : Sp := SpOf K mg 2 (gp_bent cA) m_bent (gx_bent cA) (kL (kL (kVal tInt))) (fun b => b.2)

abbrev S_is_merge : Stmt := topS 24
abbrev N_is_merge : List Str := ["rows", "full", "row", "y"]
theorem sc_is_merge : FnScope N_is_merge ["rows"] (defScope S_is_merge) := ⟨rfl, rfl, rfl, by decide +kernel, rfl, by decide +kernel, by decide +kernel⟩
theorem nm_is_merge : nmOk N_is_merge = true := by decide +kernel
theorem nd_is_merge : N_is_merge.Nodup := sc_is_merge.nd
abbrev A_is_merge := (List (List Int)) × Unit
abbrev B_is_merge := Bool
abbrev gp_is_merge (cA : Ad) (pn : Nat → Addr) (a : A_is_merge) : List Slot := [sv (tList (tList tInt)) a.1]
abbrev gx_is_merge (cA : Ad) (pn : Nat → Addr) (b : B_is_merge) : List Slot := [none, none, none, none]
def d_is_merge : { m : A_is_merge → Res B_is_merge // ∀ (P : Program) (w : World) (K : Fg) (mg : Str → Option Value) (base : Heap) (cA : Ad) (hG : Gl mg) (hX : Cf K mg cA) (pn : Nat → Addr) (a : A_is_merge),
    BJ (bdOf P w K mg base 0 N_is_merge S_is_merge) (gp_is_merge cA pn a ++ List.replicate 3 none) (defBody S_is_merge) (m a) (fun b => .rt (gx_is_merge cA pn b) (kVal tBool) b) } :=
  ⟨_, fun P w K mg base cA hG hX  pn a =>
    (bj_set 1 nd_is_merge rfl (Or.inl rfl) (ej_let (κ := (kL (kVal tInt))) (ej_ownI (κ := (kL (kVal tInt))) (oj_listRg1 rfl rfl hG.list_ rfl hG.range_ (pj_len (sqList (tList tInt)) rfl hG.len_ (pj_vv (tList (tList tInt)) 0 a.1 nm_is_merge rfl (Or.inl rfl) rfl))) (imm_kLP (imm_kVal imm_int)))) (fun (v1 : (List Int)) => (bj_ifT (finz := (fun b => .rt (gx_is_merge cA pn b) (kVal tBool) b)) (inj := (fun z => z)) (etj_of (tj_wj (wj_or (tj_icmp .lt (pj_len (sqList (tList tInt)) rfl hG.len_ (pj_vv (tList (tList tInt)) 0 a.1 nm_is_merge rfl (Or.inl rfl) rfl)) pj_int) (wj_or1 (tj_icmp .gt (pj_len (sqList (tList tInt)) rfl hG.len_ (pj_vv (tList (tList tInt)) 0 a.1 nm_is_merge rfl (Or.inl rfl) rfl)) pj_int))))) (fun (b2 : Bool) => (bj_rt (fun (v3 : Bool) => gx_is_merge cA pn v3) (fun (v3 : Bool) => v3) (ej_imm (τ := tBool) pj_bl imm_bool) (fun _ => rfl) (by exact fun _ => .drop (.drop (.keep (.keep .nil)))))) (fun _ => rfl) (fun _ => rfl) (fun (b2 : Bool) => (bj_forR (ζ := Bool) (g := fun (s5 : Unit) => [sv (tList (tList tInt)) a.1, sv (tList tInt) v1, none, none]) (finz := (fun b => .rt (gx_is_merge cA pn b) (kVal tBool) b)) (inj := fun z => z) rfl (fj_list (τ := (tList tInt)) 2 nd_is_merge rfl (Or.inl rfl) (pj_vv (tList (tList tInt)) 0 a.1 nm_is_merge rfl (Or.inl rfl) rfl)) (()) (by exact .keep (.keep (.keep (.keep .nil)))) (fun x4 s5 => (bj_ifT (finz := (fun b => .rt (gx_is_merge cA pn b) (kVal tBool) b)) (inj := (fun z => Step.rt z)) (etj_of (tj_eqd .ne (deqOf (dnList dnInt) (by decide)) (pj_of_oj (κ := (kL (kVal tInt))) (oj_sorted (sqList tInt) rfl hG.sorted_ (pj_vv (tList tInt) 2 x4 nm_is_merge rfl (Or.inl rfl) rfl))) (pj_vv (tList tInt) 1 v1 nm_is_merge rfl (Or.inl rfl) rfl))) (fun (b8 : Bool) => (bj_rt (fun (v9 : Bool) => gx_is_merge cA pn v9) (fun (v9 : Bool) => v9) (ej_imm (τ := tBool) pj_bl imm_bool) (fun _ => rfl) (by exact fun _ => .drop (.drop (.drop (.keep .nil)))))) (fun _ => rfl) (fun _ => rfl) (fun (b8 : Bool) => (bj_nil (G' := [sv (tList (tList tInt)) a.1, sv (tList tInt) v1, none, none]) (a := Step.nx (())) (by exact .keep (.keep (.drop (.keep .nil)))) rfl)))) (fun _ => ⟨_, _, _, rfl⟩) (fun _ => rfl) (fun s6 => (bj_forR (ζ := Bool) (g := fun (s11 : Unit) => [sv (tList (tList tInt)) a.1, sv (tList tInt) v1, none, none]) (finz := (fun b => .rt (gx_is_merge cA pn b) (kVal tBool) b)) (inj := fun z => z) rfl (fj_list (τ := tInt) 3 nd_is_merge rfl (Or.inr rfl) (pj_vv (tList tInt) 1 v1 nm_is_merge rfl (Or.inl rfl) rfl)) (()) (by exact .keep (.keep (.keep (.keep .nil)))) (fun x10 s11 => (bj_ifT (finz := (fun b => .rt (gx_is_merge cA pn b) (kVal tBool) b)) (inj := (fun z => Step.rt z)) (etj_of (tj_eqd .ne (deqOf (dnList dnInt) (by decide)) (pj_of_oj (κ := (kL (kVal tInt))) (oj_sorted (sqList tInt) rfl hG.sorted_ (pj_of_oj (κ := (kL (kVal tInt))) (oj_lc nd_is_merge rfl (lcj (κ := (kVal tInt)) [("row", 2)] rfl (pij_list (τ := (tList tInt)) 2 nd_is_merge rfl (Or.inl rfl) (Or.inr rfl) (pj_vv (tList (tList tInt)) 0 a.1 nm_is_merge rfl (Or.inl rfl) rfl)) (by decide) (fun x14 => tsj_nil) (fun x14 => (oj_of_pj (pj_ixL (τ := tInt) (fun _ _ => rfl) (pj_vv (tList tInt) 2 x14 nm_is_merge rfl (Or.inl rfl) rfl) (pj_vv tInt 3 x10 nm_is_merge rfl (Or.inr (Or.inl rfl)) rfl))))))))) (pj_vv (tList tInt) 1 v1 nm_is_merge rfl (Or.inl rfl) rfl))) (fun (b15 : Bool) => (bj_rt (fun (v16 : Bool) => gx_is_merge cA pn v16) (fun (v16 : Bool) => v16) (ej_imm (τ := tBool) pj_bl imm_bool) (fun _ => rfl) (by exact fun _ => .drop (.drop (.keep (.drop .nil)))))) (fun _ => rfl) (fun _ => rfl) (fun (b15 : Bool) => (bj_nil (G' := [sv (tList (tList tInt)) a.1, sv (tList tInt) v1, none, none]) (a := Step.nx (())) (by exact .keep (.keep (.keep (.drop .nil)))) rfl)))) (fun _ => ⟨_, _, _, rfl⟩) (fun _ => rfl) (fun s12 => (bj_rt (fun (v17 : Bool) => gx_is_merge cA pn v17) (fun (v17 : Bool) => v17) (ej_imm (τ := tBool) pj_bl imm_bool) (fun _ => rfl) (by exact fun _ => .drop (.drop (.keep (.keep .nil)))))))))))))⟩
abbrev m_is_merge : A_is_merge → Res B_is_merge := d_is_merge.1
abbrev sp_is_merge (K : Fg) (mg : Str → Option Value) (cA : Ad) : Sp := SpOf K mg 1 (gp_is_merge cA) m_is_merge (gx_is_merge cA) (kVal tBool) (fun b => b)
def mt_refused_0 (nm : Str) : Option Bool := if nm = "BadGroup" then some true else if nm = "BadMerge" then some true else if nm = "BadNet" then some true else if nm = "BadWeb" then some true else if nm = "Fault" then some true else none
theorem mt_refused_0_ok {K : Fg} {mg : Str → Option Value} {cA : Ad} (hX : Cf K mg cA) {nm : Str} {b : Bool} (h : mt_refused_0 nm = some b) : ExMG K mg cA.Fault_ nm b := by
  unfold mt_refused_0 at h
  by_cases h0 : nm = "BadGroup"
  · rw [if_pos h0] at h; cases h; rw [h0]; exact hX.exM_Fault_BadGroup
  rw [if_neg h0] at h
  by_cases h1 : nm = "BadMerge"
  · rw [if_pos h1] at h; cases h; rw [h1]; exact hX.exM_Fault_BadMerge
  rw [if_neg h1] at h
  by_cases h2 : nm = "BadNet"
  · rw [if_pos h2] at h; cases h; rw [h2]; exact hX.exM_Fault_BadNet
  rw [if_neg h2] at h
  by_cases h3 : nm = "BadWeb"
  · rw [if_pos h3] at h; cases h; rw [h3]; exact hX.exM_Fault_BadWeb
  rw [if_neg h3] at h
  by_cases h4 : nm = "Fault"
  · rw [if_pos h4] at h; cases h; rw [h4]; exact hX.exM_Fault_Fault
  rw [if_neg h4] at h
  cases h
def mt_refused_1 (nm : Str) : Option Bool := if nm = "BadGroup" then some false else if nm = "BadMerge" then some true else if nm = "BadNet" then some false else if nm = "BadWeb" then some false else if nm = "Fault" then some false else none
theorem mt_refused_1_ok {K : Fg} {mg : Str → Option Value} {cA : Ad} (hX : Cf K mg cA) {nm : Str} {b : Bool} (h : mt_refused_1 nm = some b) : ExMG K mg cA.BadMerge_ nm b := by
  unfold mt_refused_1 at h
  by_cases h0 : nm = "BadGroup"
  · rw [if_pos h0] at h; cases h; rw [h0]; exact hX.exM_BadMerge_BadGroup
  rw [if_neg h0] at h
  by_cases h1 : nm = "BadMerge"
  · rw [if_pos h1] at h; cases h; rw [h1]; exact hX.exM_BadMerge_BadMerge
  rw [if_neg h1] at h
  by_cases h2 : nm = "BadNet"
  · rw [if_pos h2] at h; cases h; rw [h2]; exact hX.exM_BadMerge_BadNet
  rw [if_neg h2] at h
  by_cases h3 : nm = "BadWeb"
  · rw [if_pos h3] at h; cases h; rw [h3]; exact hX.exM_BadMerge_BadWeb
  rw [if_neg h3] at h
  by_cases h4 : nm = "Fault"
  · rw [if_pos h4] at h; cases h; rw [h4]; exact hX.exM_BadMerge_Fault
  rw [if_neg h4] at h
  cases h
theorem mt_refused_1_only {nm : Str} (h : mt_refused_1 nm = some true) : nm = "BadMerge" := by
  unfold mt_refused_1 at h
  by_cases h0 : nm = "BadGroup"
  · rw [if_pos h0] at h; cases h
  rw [if_neg h0] at h
  by_cases h1 : nm = "BadMerge"
  · exact h1
  rw [if_neg h1] at h
  by_cases h2 : nm = "BadNet"
  · rw [if_pos h2] at h; cases h
  rw [if_neg h2] at h
  by_cases h3 : nm = "BadWeb"
  · rw [if_pos h3] at h; cases h
  rw [if_neg h3] at h
  by_cases h4 : nm = "Fault"
  · rw [if_pos h4] at h; cases h
  rw [if_neg h4] at h
  cases h

abbrev S_refused : Stmt := topS 26
abbrev N_refused : List Str := ["rows", "e", "apart"]
theorem sc_refused : FnScope N_refused ["rows"] (defScope S_refused) := ⟨rfl, rfl, rfl, by decide +kernel, rfl, by decide +kernel, by decide +kernel⟩
theorem nm_refused : nmOk N_refused = true := by decide +kernel
theorem nd_refused : N_refused.Nodup := sc_refused.nd
abbrev A_refused := (List (List Int)) × Unit
abbrev B_refused := (Option Bool)
abbrev gp_refused (cA : Ad) (pn : Nat → Addr) (a : A_refused) : List Slot := [sv (tList (tList tInt)) a.1]
abbrev gx_refused (cA : Ad) (pn : Nat → Addr) (b : B_refused) : List Slot := [none, none, none]
def d_refused : { m : A_refused → Res B_refused // ∀ (P : Program) (w : World) (K : Fg) (mg : Str → Option Value) (base : Heap) (cA : Ad) (hG : Gl mg) (hX : Cf K mg cA) (h_Merge_init : MakeG P w K mg base cA.Merge_ 3 "Merge" ["self", "rows"] (sp_Merge_init K mg cA)) (pn : Nat → Addr) (a : A_refused),
    BJ (bdOf P w K mg base 4 N_refused S_refused) (gp_refused cA pn a ++ List.replicate 2 none) (defBody S_refused) (m a) (fun b => .rt (gx_refused cA pn b) (kVal (tOpt tBool)) b) } :=
  ⟨_, fun P w K mg base cA hG hX h_Merge_init pn a =>
    (bj_tryC (C := cA.Merge_) (T := R_Merge) (flds := fl_Merge_4 cA) (finz := (fun b => .rt (gx_refused cA pn b) (kVal (tOpt tBool)) b)) (inj := fun z => z) (fun _ => trivial) (pj_make (C := cA.Merge_) (T := R_Merge) (T1 := TI_Merge_4) (f1 := fl_Merge_4 cA) (flds := fl_Merge_4 cA) (x1 := fun b => b) (k := 2) (arg := fun c => ((), c)) (y := fun b => b) (makeat 3 h_Merge_init (Nat.le_of_ble_eq_true rfl)) (fun _ => rfl) rfl (aj_cons (pj_vv (tList (tList tInt)) 0 a.1 nm_refused rfl (Or.inl rfl) rfl) aj_nil) (fun _ _ => rfl) (fun _ => rfl)) (hdj_as 1 (n := "e") (mt := mt_refused_1) noPay (finz := (fun b => .rt (gx_refused cA pn b) (kVal (tOpt tBool)) b)) (inj := fun z => z) nd_refused rfl rfl hX.mg_BadMerge rfl (fun nm b h => mt_refused_1_ok hX h) (fun ea ex cls dx hmt hpk hsh => (by have hnm : ex.name = "BadMerge" := mt_refused_1_only hmt; exact (bj_set 2 nd_refused rfl (Or.inl rfl) (ej_imm (τ := tBool) (pj_and (pj_not (pj_isE (b := false) hsh hpk (by rw [hnm]; exact hX.isE_BadMerge_BadWeb) rfl hG.isinstance_ rfl (pj_ve 1 nm_refused rfl (Or.inl rfl) rfl))) (pj_and (pj_not (pj_isE (b := false) hsh hpk (by rw [hnm]; exact hX.isE_BadMerge_BadNet) rfl hG.isinstance_ rfl (pj_ve 1 nm_refused rfl (Or.inl rfl) rfl))) (pj_one (pj_not (pj_isE (b := false) hsh hpk (by rw [hnm]; exact hX.isE_BadMerge_BadGroup) rfl hG.isinstance_ rfl (pj_ve 1 nm_refused rfl (Or.inl rfl) rfl)))))) imm_bool) (fun (v2 : Bool) => (bj_rt (fun (v3 : (Option Bool)) => gx_refused cA pn v3) (fun (v3 : (Option Bool)) => v3) (ej_imm (τ := (tOpt tBool)) (pj_some non_bool (pj_and (pj_isE (b := true) hsh hpk (by rw [hnm]; exact hX.isE_BadMerge_Fault) rfl hG.isinstance_ rfl (pj_ve 1 nm_refused rfl (Or.inl rfl) rfl)) (pj_and (pj_isE (b := true) hsh hpk (by rw [hnm]; exact hX.isE_BadMerge_ValueError) rfl hG.isinstance_ rfl (pj_ve 1 nm_refused rfl (Or.inl rfl) rfl)) (pj_one (pj_vv tBool 2 v2 nm_refused rfl (Or.inl rfl) rfl))))) (imm_opt imm_bool)) (fun _ => rfl) (by exact fun _ => .drop (.drop (.drop .nil)))))))) (fun _ => ⟨_, _, _, rfl⟩) (fun _ => rfl) (hdj_cons (mt := mt_refused_0) (fun _ => true) (finz := (fun b => .rt (gx_refused cA pn b) (kVal (tOpt tBool)) b)) (inj := fun z => z) hX.mg_Fault rfl (fun nm b h => mt_refused_0_ok hX h) (fun ea ex cls dx hmt hpk hsh => (bj_rt (fun (v1 : (Option Bool)) => gx_refused cA pn v1) (fun (v1 : (Option Bool)) => v1) (ej_imm (τ := (tOpt tBool)) (pj_noneO tBool) (imm_opt imm_bool)) (fun _ => rfl) (by exact fun _ => .drop (.keep (.keep .nil))))) (fun _ => ⟨_, _, _, rfl⟩) (fun _ => rfl) hdj_nil)) (fun _ => ⟨_, _, _, rfl⟩) (fun _ => rfl) (bj_rt (fun (v4 : (Option Bool)) => gx_refused cA pn v4) (fun (v4 : (Option Bool)) => v4) (ej_imm (τ := (tOpt tBool)) (pj_some non_bool pj_bl) (imm_opt imm_bool)) (fun _ => rfl) (by exact fun _ => .drop (.keep (.keep .nil)))))⟩
abbrev m_refused : A_refused → Res B_refused := d_refused.1
abbrev sp_refused (K : Fg) (mg : Str → Option Value) (cA : Ad) : Sp := SpOf K mg 1 (gp_refused cA) m_refused (gx_refused cA) (kVal (tOpt tBool)) (fun b => b)

abbrev S_bool_1 : Stmt := topS 21
abbrev N_bool_1 : List Str := ["found", "due"]
theorem sc_bool_1 : FnScope N_bool_1 ["found", "due"] (defScope S_bool_1) := ⟨rfl, rfl, rfl, by decide +kernel, rfl, by decide +kernel, by decide +kernel⟩
theorem nm_bool_1 : nmOk N_bool_1 = true := by decide +kernel
theorem nd_bool_1 : N_bool_1.Nodup := sc_bool_1.nd
abbrev A_bool_1 := (Option Bool) × Bool × Unit
abbrev B_bool_1 := Bool
abbrev gp_bool_1 (cA : Ad) (pn : Nat → Addr) (a : A_bool_1) : List Slot := [sv (tOpt tBool) a.1, sv tBool a.2.1]
abbrev gx_bool_1 (cA : Ad) (pn : Nat → Addr) (b : B_bool_1) : List Slot := [none, none]
def d_bool_1 : { m : A_bool_1 → Res B_bool_1 // ∀ (P : Program) (w : World) (K : Fg) (mg : Str → Option Value) (base : Heap) (cA : Ad) (hG : Gl mg) (hX : Cf K mg cA) (pn : Nat → Addr) (a : A_bool_1),
    BJ (bdOf P w K mg base 0 N_bool_1 S_bool_1) (gp_bool_1 cA pn a ++ List.replicate 0 none) (defBody S_bool_1) (m a) (fun b => .rt (gx_bool_1 cA pn b) (kVal tBool) b) } :=
  ⟨_, fun P w K mg base cA hG hX  pn a =>
    (bj_rt (fun (v1 : Bool) => gx_bool_1 cA pn v1) (fun (v1 : Bool) => v1) (ej_imm (τ := tBool) (pj_or (pj_and (pj_isOB .is (pj_vv (tOpt tBool) 0 a.1 nm_bool_1 rfl (Or.inl rfl) rfl) pj_bl) (pj_one (pj_vv tBool 1 a.2.1 nm_bool_1 rfl (Or.inl rfl) rfl))) (pj_one (pj_and (pj_isOB .is (pj_vv (tOpt tBool) 0 a.1 nm_bool_1 rfl (Or.inl rfl) rfl) pj_bl) (pj_one (pj_not (pj_vv tBool 1 a.2.1 nm_bool_1 rfl (Or.inl rfl) rfl)))))) imm_bool) (fun _ => rfl) (by exact fun _ => .drop (.drop .nil)))⟩
abbrev m_bool_1 : A_bool_1 → Res B_bool_1 := d_bool_1.1
abbrev sp_bool_1 (K : Fg) (mg : Str → Option Value) (cA : Ad) : Sp := SpOf K mg 2 (gp_bool_1 cA) m_bool_1 (gx_bool_1 cA) (kVal tBool) (fun b => b)

abbrev S_shuffled : Stmt := topS 15
abbrev N_shuffled : List Str := ["numbers", "many", "left", "found", "k"]
theorem sc_shuffled : FnScope N_shuffled ["numbers", "many"] (defScope S_shuffled) := ⟨rfl, rfl, rfl, by decide +kernel, rfl, by decide +kernel, by decide +kernel⟩
theorem nm_shuffled : nmOk N_shuffled = true := by decide +kernel
theorem nd_shuffled : N_shuffled.Nodup := sc_shuffled.nd
abbrev A_shuffled := (List Int) × Int × Unit
abbrev B_shuffled := (List Int) × (List Int)
abbrev gp_shuffled (cA : Ad) (pn : Nat → Addr) (a : A_shuffled) : List Slot := [some ⟨(kLP (fun q => q = pn 0) (kVal tInt)), a.1⟩, sv tInt a.2.1]
abbrev gx_shuffled (cA : Ad) (pn : Nat → Addr) (b : B_shuffled) : List Slot := [some ⟨(kLP (fun q => q = pn 0) (kVal tInt)), b.1⟩, none, none, none, none]
def d_shuffled : { m : A_shuffled → Res B_shuffled // ∀ (P : Program) (w : World) (K : Fg) (mg : Str → Option Value) (base : Heap) (cA : Ad) (hG : Gl mg) (hX : Cf K mg cA) (h_take : FnG P w K mg base 1 "_law_take" ["numbers", "many"] (sp_take K mg cA)) (pn : Nat → Addr) (a : A_shuffled),
    BJ (bdOf P w K mg base 1 N_shuffled S_shuffled) (gp_shuffled cA pn a ++ List.replicate 3 none) (defBody S_shuffled) (m a) (fun b => .rt (gx_shuffled cA pn b) (kL (kVal tInt)) b.2) } :=
  ⟨_, fun P w K mg base cA hG hX h_take pn a =>
    (bj_set 2 nd_shuffled rfl (Or.inl rfl) (ej_ownI (κ := (kL (kVal tInt))) (oj_listRg1 rfl rfl hG.list_ rfl hG.range_ (pj_vv tInt 1 a.2.1 nm_shuffled rfl (Or.inl rfl) rfl)) (imm_kLP (imm_kVal imm_int))) (fun (v1 : (List Int)) => (bj_set 3 nd_shuffled rfl (Or.inl rfl) (ej_ownI (κ := (kL (kVal tInt))) (oj_lst (es_nil (τ := tInt)) (by decide)) (imm_kLP (imm_kVal imm_int))) (fun (v2 : (List Int)) => (bj_for (g := fun (s4 : (List Int) × (List Int) × (List Int)) => [some ⟨(kLP (fun q => q = pn 0) (kVal tInt)), s4.1⟩, sv tInt a.2.1, some ⟨(kL (kVal tInt)), s4.2.1⟩, some ⟨(kL (kVal tInt)), s4.2.2⟩, none]) rfl (fj_rng1 4 nd_shuffled rfl (Or.inl rfl) rfl hG.range_ (pj_vv tInt 1 a.2.1 nm_shuffled rfl (Or.inl rfl) rfl)) ((a.1, v1, v2)) (by exact .keep (.keep (.keep (.keep (.keep .nil))))) (fun x3 s4 => (bj_expr (ej_append (κ := (kVal tInt)) (xs := fun (r7 : ((B_take) × ((List Int) × Int))) => s4.2.2) 3 rfl (Or.inl rfl) rfl (ej_popAt (κ := (kVal tInt)) (xs := fun (r6 : B_take) => s4.2.1) (k := fun (r6 : B_take) => r6.2) 2 rfl (Or.inl rfl) rfl (ej_callM (κ := (kVal tInt)) (κr := (kVal tInt)) (arg := fun c => (s4.1, c)) 0 (fnat 1 h_take (Nat.le_of_ble_eq_true rfl)) (imm_kVal imm_int) (imm_kVal imm_int) rfl rfl (Or.inl rfl) rfl (aj_cons (pj_len (sqList tInt) rfl hG.len_ (pj_vl (kVal tInt) 2 s4.2.1 nm_shuffled rfl (Or.inl rfl) rfl)) aj_nil) (fun _ _ => rfl) (fun _ => rfl)) (fun _ => rfl)) (fun _ => rfl)) (fun (v8 : ((((B_take) × ((List Int) × Int))) × (List Int))) => (bj_nil (G' := [some ⟨(kLP (fun q => q = pn 0) (kVal tInt)), v8.1.1.1⟩, sv tInt a.2.1, some ⟨(kL (kVal tInt)), v8.1.2.1⟩, some ⟨(kL (kVal tInt)), v8.2⟩, none]) (a := (v8.1.1.1, v8.1.2.1, v8.2)) (by exact .keep (.keep (.keep (.keep (.drop .nil))))) rfl)))) (fun s5 => (bj_wk (G' := [some ⟨(kLP (fun q => q = pn 0) (kVal tInt)), s5.1⟩, sv tInt a.2.1, sv (tList tInt) s5.2.1, some ⟨(kL (kVal tInt)), s5.2.2⟩, none]) (by exact .keep (.keep (.let (.keep (.keep .nil))))) (bj_rt (fun (v9 : Unit) => gx_shuffled cA pn ((s5.1, s5.2.2))) (fun (v9 : Unit) => (s5.1, s5.2.2)) (ej_move (κ := (kL (kVal tInt))) 3 (x := s5.2.2) rfl (Or.inl rfl) rfl) (fun _ => rfl) (by exact fun _ => .keep (.drop (.drop (.keep (.keep .nil)))))))))))))⟩
abbrev m_shuffled : A_shuffled → Res B_shuffled := d_shuffled.1
abbrev sp_shuffled (K : Fg) (mg : Str → Option Value) (cA : Ad) : Sp := SpOf K mg 2 (gp_shuffled cA) m_shuffled (gx_shuffled cA) (kL (kVal tInt)) (fun b => b.2)

abbrev S_inverted_fits_1 : Stmt := topS 27
abbrev N_inverted_fits_1 : List Str := ["given", "kept", "due"]
theorem sc_inverted_fits_1 : FnScope N_inverted_fits_1 ["given", "kept", "due"] (defScope S_inverted_fits_1) := ⟨rfl, rfl, rfl, by decide +kernel, rfl, by decide +kernel, by decide +kernel⟩
theorem nm_inverted_fits_1 : nmOk N_inverted_fits_1 = true := by decide +kernel
theorem nd_inverted_fits_1 : N_inverted_fits_1.Nodup := sc_inverted_fits_1.nd
abbrev A_inverted_fits_1 := (List Int) × (List Int) × (List Int) × Unit
abbrev B_inverted_fits_1 := Bool
abbrev gp_inverted_fits_1 (cA : Ad) (pn : Nat → Addr) (a : A_inverted_fits_1) : List Slot := [sv (tTup tInt) a.1, sv (tList tInt) a.2.1, sv (tList tInt) a.2.2.1]
abbrev gx_inverted_fits_1 (cA : Ad) (pn : Nat → Addr) (b : B_inverted_fits_1) : List Slot := [none, none, none]
def d_inverted_fits_1 : { m : A_inverted_fits_1 → Res B_inverted_fits_1 // ∀ (P : Program) (w : World) (K : Fg) (mg : Str → Option Value) (base : Heap) (cA : Ad) (hG : Gl mg) (hX : Cf K mg cA) (h_alike_2 : FnG P w K mg base 2 "_law_alike" ["found", "due"] (sp_alike_2 K mg cA)) (h_inverted : FnG P w K mg base 1 "inverted" ["names"] (sp_inverted K mg cA)) (pn : Nat → Addr) (a : A_inverted_fits_1),
    BJ (bdOf P w K mg base 2 N_inverted_fits_1 S_inverted_fits_1) (gp_inverted_fits_1 cA pn a ++ List.replicate 0 none) (defBody S_inverted_fits_1) (m a) (fun b => .rt (gx_inverted_fits_1 cA pn b) (kVal tBool) b) } :=
  ⟨_, fun P w K mg base cA hG hX h_alike_2 h_inverted pn a =>
    (bj_rt (fun (v1 : Bool) => gx_inverted_fits_1 cA pn v1) (fun (v1 : Bool) => v1) (ej_imm (τ := tBool) (pj_and (pj_of_oj (κ := (kVal tBool)) (oj_call (κ := (kVal tBool)) (arg := fun c => c) (fnat 2 h_alike_2 (Nat.le_of_ble_eq_true rfl)) rfl (aj_cons (pj_of_oj (κ := (kVal (tTup tInt))) (oj_call (κ := (kVal (tTup tInt))) (arg := fun c => c) (fnat 1 h_inverted (Nat.le_of_ble_eq_true rfl)) rfl (aj_cons (pj_vv (tTup tInt) 0 a.1 nm_inverted_fits_1 rfl (Or.inl rfl) rfl) aj_nil) (fun _ _ => rfl) (fun _ => rfl))) (aj_cons (pj_vv (tList tInt) 2 a.2.2.1 nm_inverted_fits_1 rfl (Or.inl rfl) rfl) aj_nil)) (fun _ _ => rfl) (fun _ => rfl))) (pj_one (pj_eqd .eq (deqOf (dnList dnInt) (by decide)) (pj_of_oj (κ := (kL (kVal tInt))) (oj_list (sqTup tInt) rfl hG.list_ (pj_vv (tTup tInt) 0 a.1 nm_inverted_fits_1 rfl (Or.inl rfl) rfl))) (pj_vv (tList tInt) 1 a.2.1 nm_inverted_fits_1 rfl (Or.inl rfl) rfl)))) imm_bool) (fun _ => rfl) (by exact fun _ => .drop (.drop (.drop .nil))))⟩
abbrev m_inverted_fits_1 : A_inverted_fits_1 → Res B_inverted_fits_1 := d_inverted_fits_1.1
abbrev sp_inverted_fits_1 (K : Fg) (mg : Str → Option Value) (cA : Ad) : Sp := SpOf K mg 3 (gp_inverted_fits_1 cA) m_inverted_fits_1 (gx_inverted_fits_1 cA) (kVal tBool) (fun b => b)

abbrev S_law : Stmt := topS 30
abbrev N_law : List Str := ["script", "numbers", "tables", "handed", "first", "second", "rows", "row", "k", "bent", "due", "made", "wide", "nine", "names", "back", "x", "y"]
theorem sc_law : FnScope N_law ["script"] (defScope S_law) := ⟨rfl, rfl, rfl, by decide +kernel, rfl, by decide +kernel, by decide +kernel⟩
theorem nm_law : nmOk N_law = true := by decide +kernel
theorem nd_law : N_law.Nodup := sc_law.nd
abbrev A_law := (List Int) × Unit
abbrev B_law := Bool
abbrev gp_law (cA : Ad) (pn : Nat → Addr) (a : A_law) : List Slot := [sv tScr a.1]
abbrev gx_law (cA : Ad) (pn : Nat → Addr) (b : B_law) : List Slot := [none, none, none, none, none, none, none, none, none, none, none, none, none, none, none, none, none, none]
def d_law : { m : A_law → Res B_law // ∀ (P : Program) (w : World) (K : Fg) (mg : Str → Option Value) (base : Heap) (cA : Ad) (hG : Gl mg) (hX : Cf K mg cA) (h_numbers : FnG P w K mg base 1 "_law_numbers" ["script", "many"] (sp_numbers K mg cA)) (h_latin : FnG P w K mg base 3 "_law_latin" ["numbers", "order"] (sp_latin K mg cA)) (h_take : FnG P w K mg base 1 "_law_take" ["numbers", "many"] (sp_take K mg cA)) (h_Merge_init : MakeG P w K mg base cA.Merge_ 3 "Merge" ["self", "rows"] (sp_Merge_init K mg cA)) (h_merge_fits : FnG P w K mg base 5 "_law_merge_fits" ["merge", "rows"] (sp_merge_fits K mg cA)) (h_bent : FnG P w K mg base 2 "_law_bent" ["numbers", "rows"] (sp_bent K mg cA)) (h_is_merge : FnG P w K mg base 1 "_law_is_merge" ["rows"] (sp_is_merge K mg cA)) (h_bool_1 : FnG P w K mg base 1 "_law_bool" ["found", "due"] (sp_bool_1 K mg cA)) (h_refused : FnG P w K mg base 5 "_law_refused" ["rows"] (sp_refused K mg cA)) (h_alike_1 : FnG P w K mg base 3 "_law_alike" ["found", "due"] (sp_alike_1 K mg cA)) (h_alike_3 : FnG P w K mg base 3 "_law_alike" ["found", "due"] (sp_alike_3 K mg cA)) (h_triples : FnG P w K mg base 1 "_law_triples" ["rows"] (sp_triples K mg cA)) (h_Merge_triples : MethG P w K mg base cA.Merge_ 1 "triples" ["self"] (sp_Merge_triples K mg cA)) (h_shuffled : FnG P w K mg base 2 "_law_shuffled" ["numbers", "many"] (sp_shuffled K mg cA)) (h_inverted_fits_1 : FnG P w K mg base 3 "_law_inverted_fits" ["given", "kept", "due"] (sp_inverted_fits_1 K mg cA)) (h_inverted_fits : FnG P w K mg base 3 "_law_inverted_fits" ["given", "kept", "due"] (sp_inverted_fits K mg cA)) (pn : Nat → Addr) (a : A_law),
    BJ (bdOf P w K mg base 5 N_law S_law) (gp_law cA pn a ++ List.replicate 17 none) (defBody S_law) (m a) (fun b => .rt (gx_law cA pn b) (kVal tBool) b) } :=
  ⟨_, fun P w K mg base cA hG hX h_numbers h_latin h_take h_Merge_init h_merge_fits h_bent h_is_merge h_bool_1 h_refused h_alike_1 h_alike_3 h_triples h_Merge_triples h_shuffled h_inverted_fits_1 h_inverted_fits pn a =>
    (bj_set 1 nd_law rfl (Or.inr rfl) (ej_ownI (κ := (kL (kVal tInt))) (oj_call (κ := (kL (kVal tInt))) (arg := fun c => c) (fnat 1 h_numbers (Nat.le_of_ble_eq_true rfl)) rfl (aj_cons (pj_vv tScr 0 a.1 nm_law rfl (Or.inl rfl) rfl) (aj_cons pj_int aj_nil)) (fun _ _ => rfl) (fun _ => rfl)) (imm_kLP (imm_kVal imm_int))) (fun (v1 : (List Int)) => (bj_setELc 2 nd_law rfl rfl rfl rfl rfl rfl (elcj (κ := (kVal (tList (tList tInt)))) [("k", 8)] (g := fun (s3 : (List Int)) => [sv tScr a.1, some ⟨(kL (kVal tInt)), s3⟩, none, none, none, none, none, none, none, none, none, none, none, none, none, none, none, none]) v1 (y := fun (x2 : Int) (s3 : (List Int)) (b7 : ((((Int) × (B_take) × Int)) × B_latin)) => b7.2.2) (nx := fun (x2 : Int) (s3 : (List Int)) (b7 : ((((Int) × (B_take) × Int)) × B_latin)) => b7.2.1) rfl (pij_rng1 8 nd_law rfl (Or.inl rfl) (Or.inr rfl) rfl hG.range_ pj_int) (bindOk1 (i := 8) (τ := tInt)) (by decide) (fun x2 s3 => (ej_let (κ := (kL (kVal (tList tInt)))) (ej_callES (κ := (kVal tInt)) (κr := (kL (kVal (tList tInt)))) (τ := tInt) (arg := fun (r6 : ((Int) × (B_take) × Int)) => (r6.2.1.1, r6.2.2, ())) (xs := fun (r6 : ((Int) × (B_take) × Int)) => r6.2.1.1) (v := fun (r6 : ((Int) × (B_take) × Int)) => r6.2.2) 1 (fnat 3 h_latin (Nat.le_of_ble_eq_true rfl))   flat_int rfl rfl (Or.inr (Or.inl rfl)) rfl (ej_op .add (x := fun (r4 : Int) => r4) (y := fun (r4 : Int) (r5 : B_take) => r5.2) (ej_imm (τ := tInt) pj_int imm_int) (fun (r4 : Int) => (ej_callM (κ := (kVal tInt)) (κr := (kVal tInt)) (arg := fun c => (s3, c)) 1 (fnat 1 h_take (Nat.le_of_ble_eq_true rfl)) (imm_kVal imm_int) (imm_kVal imm_int) rfl rfl (Or.inr (Or.inl rfl)) rfl (aj_cons pj_int aj_nil) (fun _ _ => rfl) (fun _ => rfl)))) (fun _ => rfl) (fun _ _ => rfl)))) (by exact .keep (.keep (.keep (.keep (.keep (.keep (.keep (.keep (.keep (.keep (.keep (.keep (.keep (.keep (.keep (.keep (.keep (.keep .nil)))))))))))))))))) (fun _ => List.forall_mem_cons.mpr ⟨rfl, fun _ h => nomatch h⟩) (by exact fun _ _ _ => .keep (.keep (.keep (.keep (.keep (.keep (.keep (.keep (.drop (.keep (.keep (.keep (.keep (.keep (.keep (.keep (.keep (.keep .nil))))))))))))))))))) (fun (v8 : (List ((List (List Int))) × ((List Int)))) => (bj_wk (G' := [sv tScr a.1, some ⟨(kL (kVal tInt)), v8.2⟩, sv (tList (tList (tList tInt))) v8.1, none, none, none, none, none, none, none, none, none, none, none, none, none, none, none]) (by exact .keep (.keep (.let (.keep (.keep (.keep (.keep (.keep (.keep (.keep (.keep (.keep (.keep (.keep (.keep (.keep (.keep (.keep .nil)))))))))))))))))) (bj_setLc 3 nd_law rfl rfl rfl rfl rfl rfl (lcj (κ := (kL (kL (kVal tInt)))) [("rows", 6)] rfl (pij_list (τ := (tList (tList tInt))) 6 nd_law rfl (Or.inl rfl) (Or.inr rfl) (pj_vv (tList (tList (tList tInt))) 2 v8.1 nm_law rfl (Or.inl rfl) rfl)) (by decide) (fun x10 => tsj_nil) (fun x10 => (oj_lc nd_law rfl (lcj (κ := (kL (kVal tInt))) [("row", 7)] rfl (pij_list (τ := (tList tInt)) 7 nd_law rfl (Or.inl rfl) (Or.inr rfl) (pj_vv (tList (tList tInt)) 6 x10 nm_law rfl (Or.inl rfl) rfl)) (by decide) (fun x11 => tsj_nil) (fun x11 => (oj_list (sqList tInt) rfl hG.list_ (pj_vv (tList tInt) 7 x11 nm_law rfl (Or.inl rfl) rfl))))))) (imm_kLP (imm_kLP (imm_kVal imm_int))) (fun v9 => (bj_set 4 nd_law rfl (Or.inl rfl) (ej_let (κ := (kIns (fun _ => True) cA.Merge_ R_Merge (fl_Merge_4 cA))) (ej_ownI (κ := (kIns (fun _ => True) cA.Merge_ R_Merge (fl_Merge_4 cA))) (oj_make (C := cA.Merge_) (T := R_Merge) (T1 := TI_Merge_4) (f1 := fl_Merge_4 cA) (flds := fl_Merge_4 cA) (x1 := fun b => b) (k := 2) (arg := fun c => ((), c)) (y := fun b => b) (makeat 3 h_Merge_init (Nat.le_of_ble_eq_true rfl)) (fun _ => rfl) rfl (aj_cons (pj_ixL (τ := (tList (tList tInt))) (fun _ _ => rfl) (pj_vl (kL (kL (kVal tInt))) 3 v9 nm_law rfl (Or.inl rfl) rfl) pj_int) aj_nil) (fun _ _ => rfl) (fun _ => rfl)) (imm_kIns (C := cA.Merge_) (T := R_Merge) (flds := fl_Merge_4 cA) (fun _ => (And.intro (imm_tup (imm_tup imm_int)) (And.intro (imm_tup (imm_tup imm_int)) (And.intro imm_int (And.intro (imm_tup (imm_tup imm_int)) trivial)))))))) (fun (v12 : R_Merge) => (bj_set 5 nd_law rfl (Or.inl rfl) (ej_let (κ := (kIns (fun _ => True) cA.Merge_ R_Merge (fl_Merge_4 cA))) (ej_ownI (κ := (kIns (fun _ => True) cA.Merge_ R_Merge (fl_Merge_4 cA))) (oj_make (C := cA.Merge_) (T := R_Merge) (T1 := TI_Merge_4) (f1 := fl_Merge_4 cA) (flds := fl_Merge_4 cA) (x1 := fun b => b) (k := 2) (arg := fun c => ((), c)) (y := fun b => b) (makeat 3 h_Merge_init (Nat.le_of_ble_eq_true rfl)) (fun _ => rfl) rfl (aj_cons (pj_ixL (τ := (tList (tList tInt))) (fun _ _ => rfl) (pj_vl (kL (kL (kVal tInt))) 3 v9 nm_law rfl (Or.inl rfl) rfl) pj_int) aj_nil) (fun _ _ => rfl) (fun _ => rfl)) (imm_kIns (C := cA.Merge_) (T := R_Merge) (flds := fl_Merge_4 cA) (fun _ => (And.intro (imm_tup (imm_tup imm_int)) (And.intro (imm_tup (imm_tup imm_int)) (And.intro imm_int (And.intro (imm_tup (imm_tup imm_int)) trivial)))))))) (fun (v13 : R_Merge) => (bj_ifT (finz := (fun b => .rt (gx_law cA pn b) (kVal tBool) b)) (inj := (fun z => z)) (etj_of (tj_eqd .ne (deqOf (dnList (dnList (dnList dnInt))) (by decide)) (pj_vl (kL (kL (kVal tInt))) 3 v9 nm_law rfl (Or.inl rfl) rfl) (pj_vv (tList (tList (tList tInt))) 2 v8.1 nm_law rfl (Or.inl rfl) rfl))) (fun (b14 : Bool) => (bj_rt (fun (v15 : Bool) => gx_law cA pn v15) (fun (v15 : Bool) => v15) (ej_imm (τ := tBool) pj_bl imm_bool) (fun _ => rfl) (by exact fun _ => .drop (.drop (.drop (.drop (.drop (.drop (.keep (.keep (.keep (.keep (.keep (.keep (.keep (.keep (.keep (.keep (.keep (.keep .nil)))))))))))))))))))) (fun _ => rfl) (fun _ => rfl) (fun (b14 : Bool) => (bj_forB (κ := (kL (kVal tInt))) 3 6 (g := fun (s20 : Unit) => [sv tScr a.1, some ⟨(kL (kVal tInt)), v8.2⟩, sv (tList (tList (tList tInt))) v8.1, none, sv (ty_Merge cA) v12, sv (ty_Merge cA) v13, none, none, none, none, none, none, none, none, none, none, none, none]) (()) rfl nd_law nm_law rfl (Or.inl rfl) rfl (Or.inl rfl) (by decide) rfl (fun _ => Nat.le_of_ble_eq_true rfl) (fun _ => Nat.le_of_ble_eq_true rfl) (fun _ _ => rfl) (by exact .keep (.keep (.keep (.keep (.keep (.keep (.keep (.keep (.keep (.keep (.keep (.keep (.keep (.keep (.keep (.keep (.keep (.keep .nil)))))))))))))))))) (fun pin21 q16 j17 (x18 : (List (List Int))) (xs19 : (List (List (List Int)))) (s20 : Unit) => (bj_bor (κ := (kVal tInt)) 6 7 nd_law nm_law rfl (Or.inl rfl) rfl (Or.inl rfl) rfl pj_int (fun _ _ => rfl) (fun q22 j23 (x24 : (List Int)) => (bj_setIx (κ := (kVal tInt)) (xs := fun (v25 : Int) (v26 : Int) => x24) (k := fun (v26 : Int) => v26) 7 rfl (Or.inl rfl) rfl (ej_imm (τ := tInt) (pj_add (pj_ixL (τ := tInt) (fun _ _ => rfl) (pj_vl (kVal tInt) 7 x24 nm_law rfl (Or.inl rfl) rfl) pj_int) pj_int) imm_int) (fun (v25 : Int) => (ej_imm (τ := tInt) pj_int imm_int)) (fun _ _ => rfl) (fun (v25 : Int) (v26 : Int) (v27 : (List Int)) => (bj_unbor 6 7 (by decide) rfl rfl (fun _ h => h) (bj_expr (ej_append (κ := (kL (kVal tInt))) (xs := fun (r28 : (List Int)) => (x18.set j23 v27)) 6 rfl (Or.inl rfl) rfl (ej_ownI (κ := (kL (kVal tInt))) (oj_lst (es_cons pj_int (es_nil (τ := tInt))) (by decide)) (imm_kLP (imm_kVal imm_int))) (fun _ => rfl)) (fun (v29 : (((List Int)) × (List (List Int)))) => (bj_nil (G' := [sv tScr a.1, some ⟨(kL (kVal tInt)), v8.2⟩, sv (tList (tList (tList tInt))) v8.1, some ⟨kHole pin21 q16 j17 (kL (kL (kVal tInt))), xs19⟩, sv (ty_Merge cA) v12, sv (ty_Merge cA) v13, some ⟨(kLP (fun a => a = q16 ∧ True) (kL (kVal tInt))), v29.2⟩, none, none, none, none, none, none, none, none, none, none, none]) (a := (v29.2, ())) (by exact .keep (.keep (.keep (.keep (.keep (.keep (.keep (.keep (.keep (.keep (.keep (.keep (.keep (.keep (.keep (.keep (.keep (.keep .nil)))))))))))))))))) rfl))))))))) (fun (xs30 : (List (List (List Int)))) (s31 : Unit) => (bj_wk (G' := [sv tScr a.1, some ⟨(kL (kVal tInt)), v8.2⟩, sv (tList (tList (tList tInt))) v8.1, sv (tList (tList (tList tInt))) xs30, sv (ty_Merge cA) v12, sv (ty_Merge cA) v13, none, none, none, none, none, none, none, none, none, none, none, none]) (by exact .keep (.keep (.keep (.let (.keep (.keep (.keep (.keep (.keep (.keep (.keep (.keep (.keep (.keep (.keep (.keep (.keep (.keep .nil)))))))))))))))))) (bj_ifT (finz := (fun b => .rt (gx_law cA pn b) (kVal tBool) b)) (inj := (fun z => z)) (etj_of (tj_wj (wj_or (tj_not (tj_val (pj_of_oj (κ := (kVal tBool)) (oj_call (κ := (kVal tBool)) (arg := fun c => c) (fnat 5 h_merge_fits (Nat.le_of_ble_eq_true rfl)) rfl (aj_consC (pj_vc (C := cA.Merge_) (T := R_Merge) (flds := fl_Merge_4 cA) 4 v12 nm_law rfl (Or.inl rfl) rfl) (aj_cons (pj_ixL (τ := (tList (tList tInt))) (fun _ _ => rfl) (pj_vv (tList (tList (tList tInt))) 2 v8.1 nm_law rfl (Or.inl rfl) rfl) pj_int) aj_nil)) (fun _ _ => rfl) (fun _ => rfl))))) (wj_or1 (tj_not (tj_val (pj_of_oj (κ := (kVal tBool)) (oj_call (κ := (kVal tBool)) (arg := fun c => c) (fnat 5 h_merge_fits (Nat.le_of_ble_eq_true rfl)) rfl (aj_consC (pj_vc (C := cA.Merge_) (T := R_Merge) (flds := fl_Merge_4 cA) 5 v13 nm_law rfl (Or.inl rfl) rfl) (aj_cons (pj_ixL (τ := (tList (tList tInt))) (fun _ _ => rfl) (pj_vv (tList (tList (tList tInt))) 2 v8.1 nm_law rfl (Or.inl rfl) rfl) pj_int) aj_nil)) (fun _ _ => rfl) (fun _ => rfl))))))))) (fun (b32 : Bool) => (bj_rt (fun (v33 : Bool) => gx_law cA pn v33) (fun (v33 : Bool) => v33) (ej_imm (τ := tBool) pj_bl imm_bool) (fun _ => rfl) (by exact fun _ => .drop (.drop (.drop (.drop (.drop (.drop (.keep (.keep (.keep (.keep (.keep (.keep (.keep (.keep (.keep (.keep (.keep (.keep .nil)))))))))))))))))))) (fun _ => rfl) (fun _ => rfl) (fun (b32 : Bool) => (bj_forR (ζ := Bool) (g := fun (s35 : (List Int)) => [sv tScr a.1, some ⟨(kL (kVal tInt)), s35⟩, sv (tList (tList (tList tInt))) v8.1, sv (tList (tList (tList tInt))) xs30, sv (ty_Merge cA) v12, sv (ty_Merge cA) v13, none, none, none, none, none, none, none, none, none, none, none, none]) (finz := (fun b => .rt (gx_law cA pn b) (kVal tBool) b)) (inj := fun z => z) rfl (fj_rng1 8 nd_law rfl (Or.inl rfl) rfl hG.range_ pj_int) v8.2 (by exact .keep (.keep (.keep (.keep (.keep (.keep (.keep (.keep (.keep (.keep (.keep (.keep (.keep (.keep (.keep (.keep (.keep (.keep .nil)))))))))))))))))) (fun x34 s35 => (bj_set 9 nd_law rfl (Or.inl rfl) (ej_let (κ := (kL (kL (kVal tInt)))) (ej_callM (κ := (kVal tInt)) (κr := (kL (kL (kVal tInt)))) (arg := fun c => (s35, c)) 1 (fnat 2 h_bent (Nat.le_of_ble_eq_true rfl)) (imm_kVal imm_int) (imm_kLP (imm_kLP (imm_kVal imm_int))) rfl rfl (Or.inr (Or.inl rfl)) rfl (aj_cons (pj_ixL (τ := (tList (tList tInt))) (fun _ _ => rfl) (pj_vv (tList (tList (tList tInt))) 2 v8.1 nm_law rfl (Or.inl rfl) rfl) pj_int) aj_nil) (fun _ _ => rfl) (fun _ => rfl))) (fun (v38 : B_bent) => (bj_set 10 nd_law rfl (Or.inl rfl) (ej_imm (τ := tBool) (pj_of_oj (κ := (kVal tBool)) (oj_call (κ := (kVal tBool)) (arg := fun c => c) (fnat 1 h_is_merge (Nat.le_of_ble_eq_true rfl)) rfl (aj_cons (pj_vv (tList (tList tInt)) 9 v38.2 nm_law rfl (Or.inl rfl) rfl) aj_nil) (fun _ _ => rfl) (fun _ => rfl))) imm_bool) (fun (v39 : Bool) => (bj_ifT (finz := (fun b => .rt (gx_law cA pn b) (kVal tBool) b)) (inj := (fun z => Step.rt z)) (etj_of (tj_not (tj_val (pj_of_oj (κ := (kVal tBool)) (oj_call (κ := (kVal tBool)) (arg := fun c => c) (fnat 1 h_bool_1 (Nat.le_of_ble_eq_true rfl)) rfl (aj_cons (pj_of_oj (κ := (kVal (tOpt tBool))) (oj_call (κ := (kVal (tOpt tBool))) (arg := fun c => c) (fnat 5 h_refused (Nat.le_of_ble_eq_true rfl)) rfl (aj_cons (pj_of_oj (κ := (kL (kVal (tList tInt)))) (oj_lc nd_law rfl (lcj (κ := (kVal (tList tInt))) [("row", 7)] rfl (pij_list (τ := (tList tInt)) 7 nd_law rfl (Or.inl rfl) (Or.inr rfl) (pj_vv (tList (tList tInt)) 9 v38.2 nm_law rfl (Or.inl rfl) rfl)) (by decide) (fun x40 => tsj_nil) (fun x40 => (oj_of_pj (pj_of_oj (κ := (kL (kVal tInt))) (oj_list (sqList tInt) rfl hG.list_ (pj_vv (tList tInt) 7 x40 nm_law rfl (Or.inl rfl) rfl)))))))) aj_nil) (fun _ _ => rfl) (fun _ => rfl))) (aj_cons (pj_not (pj_vv tBool 10 v39 nm_law rfl (Or.inl rfl) rfl)) aj_nil)) (fun _ _ => rfl) (fun _ => rfl)))))) (fun (b41 : Bool) => (bj_rt (fun (v42 : Bool) => gx_law cA pn v42) (fun (v42 : Bool) => v42) (ej_imm (τ := tBool) pj_bl imm_bool) (fun _ => rfl) (by exact fun _ => .drop (.drop (.drop (.drop (.drop (.drop (.keep (.keep (.drop (.drop (.drop (.keep (.keep (.keep (.keep (.keep (.keep (.keep .nil)))))))))))))))))))) (fun _ => rfl) (fun _ => rfl) (fun (b41 : Bool) => (bj_ifS (ζ := Bool) (g := fun (s48 : Unit) => [sv tScr a.1, some ⟨(kL (kVal tInt)), v38.1⟩, sv (tList (tList (tList tInt))) v8.1, sv (tList (tList (tList tInt))) xs30, sv (ty_Merge cA) v12, sv (ty_Merge cA) v13, none, none, sv tInt x34, sv (tList (tList tInt)) v38.2, sv tBool v39, none, none, none, none, none, none, none]) (finz := (fun b => .rt (gx_law cA pn b) (kVal tBool) b)) (inj := fun z => Step.rt z) (etj_of (tj_val (pj_vv tBool 10 v39 nm_law rfl (Or.inl rfl) rfl))) (fun (b43 : Bool) => (bj_set 11 nd_law rfl (Or.inl rfl) (ej_let (κ := (kIns (fun _ => True) cA.Merge_ R_Merge (fl_Merge_4 cA))) (ej_ownI (κ := (kIns (fun _ => True) cA.Merge_ R_Merge (fl_Merge_4 cA))) (oj_make (C := cA.Merge_) (T := R_Merge) (T1 := TI_Merge_4) (f1 := fl_Merge_4 cA) (flds := fl_Merge_4 cA) (x1 := fun b => b) (k := 2) (arg := fun c => ((), c)) (y := fun b => b) (makeat 3 h_Merge_init (Nat.le_of_ble_eq_true rfl)) (fun _ => rfl) rfl (aj_cons (pj_of_oj (κ := (kL (kVal (tList tInt)))) (oj_lc nd_law rfl (lcj (κ := (kVal (tList tInt))) [("row", 7)] rfl (pij_list (τ := (tList tInt)) 7 nd_law rfl (Or.inl rfl) (Or.inr rfl) (pj_vv (tList (tList tInt)) 9 v38.2 nm_law rfl (Or.inl rfl) rfl)) (by decide) (fun x44 => tsj_nil) (fun x44 => (oj_of_pj (pj_of_oj (κ := (kL (kVal tInt))) (oj_list (sqList tInt) rfl hG.list_ (pj_vv (tList tInt) 7 x44 nm_law rfl (Or.inl rfl) rfl)))))))) aj_nil) (fun _ _ => rfl) (fun _ => rfl)) (imm_kIns (C := cA.Merge_) (T := R_Merge) (flds := fl_Merge_4 cA) (fun _ => (And.intro (imm_tup (imm_tup imm_int)) (And.intro (imm_tup (imm_tup imm_int)) (And.intro imm_int (And.intro (imm_tup (imm_tup imm_int)) trivial)))))))) (fun (v45 : R_Merge) => (bj_ifT (finz := (fun b => .rt (gx_law cA pn b) (kVal tBool) b)) (inj := (fun z => Done.rt z)) (etj_of (tj_wj (wj_or (tj_not (tj_val (pj_of_oj (κ := (kVal tBool)) (oj_call (κ := (kVal tBool)) (arg := fun c => c) (fnat 3 h_alike_3 (Nat.le_of_ble_eq_true rfl)) rfl (aj_cons (pj_of_oj (κ := (kVal (tTup (tT3 tInt tInt tInt)))) (oj_meth0 (κ := (kVal (tTup (tT3 tInt tInt tInt)))) (arg := fun x => (x, ())) (methat 1 h_Merge_triples hX.cl_Merge (Nat.le_of_ble_eq_true rfl)) (pj_vc (C := cA.Merge_) (T := R_Merge) (flds := fl_Merge_4 cA) 11 v45 nm_law rfl (Or.inl rfl) rfl) (fun _ => rfl) (fun _ _ => rfl))) (aj_cons (pj_of_oj (κ := (kL (kVal (tList tInt)))) (oj_call (κ := (kL (kVal (tList tInt)))) (arg := fun c => c) (fnat 1 h_triples (Nat.le_of_ble_eq_true rfl)) rfl (aj_cons (pj_vv (tList (tList tInt)) 9 v38.2 nm_law rfl (Or.inl rfl) rfl) aj_nil) (fun _ _ => rfl) (fun _ => rfl))) aj_nil)) (fun _ _ => rfl) (fun _ => rfl))))) (wj_or1 (tj_not (tj_val (pj_of_oj (κ := (kVal tBool)) (oj_call (κ := (kVal tBool)) (arg := fun c => c) (fnat 3 h_alike_1 (Nat.le_of_ble_eq_true rfl)) rfl (aj_cons (pj_fld (τ := (tTup (tTup tInt))) (get := (fun x => x.1.1.1.2)) hX.cl_Merge hX.na_Merge_rows (fun _ => rfl) (pj_vc (C := cA.Merge_) (T := R_Merge) (flds := fl_Merge_4 cA) 11 v45 nm_law rfl (Or.inl rfl) rfl)) (aj_cons (pj_vv (tList (tList tInt)) 9 v38.2 nm_law rfl (Or.inl rfl) rfl) aj_nil)) (fun _ _ => rfl) (fun _ => rfl))))))))) (fun (b46 : Bool) => (bj_rt (fun (v47 : Bool) => gx_law cA pn v47) (fun (v47 : Bool) => v47) (ej_imm (τ := tBool) pj_bl imm_bool) (fun _ => rfl) (by exact fun _ => .drop (.drop (.drop (.drop (.drop (.drop (.keep (.keep (.drop (.drop (.drop (.drop (.keep (.keep (.keep (.keep (.keep (.keep .nil)))))))))))))))))))) (fun _ => rfl) (fun _ => rfl) (fun (b46 : Bool) => (bj_nil (G' := [sv tScr a.1, some ⟨(kL (kVal tInt)), v38.1⟩, sv (tList (tList (tList tInt))) v8.1, sv (tList (tList (tList tInt))) xs30, sv (ty_Merge cA) v12, sv (ty_Merge cA) v13, none, none, sv tInt x34, sv (tList (tList tInt)) v38.2, sv tBool v39, none, none, none, none, none, none, none]) (a := Done.go (())) (by exact .keep (.keep (.keep (.keep (.keep (.keep (.keep (.keep (.keep (.keep (.keep (.drop (.keep (.keep (.keep (.keep (.keep (.keep .nil)))))))))))))))))) rfl)))))) (fun (b43 : Bool) => (bj_nil (G' := [sv tScr a.1, some ⟨(kL (kVal tInt)), v38.1⟩, sv (tList (tList (tList tInt))) v8.1, sv (tList (tList (tList tInt))) xs30, sv (ty_Merge cA) v12, sv (ty_Merge cA) v13, none, none, sv tInt x34, sv (tList (tList tInt)) v38.2, sv tBool v39, none, none, none, none, none, none, none]) (a := Done.go (())) (by exact .keep (.keep (.keep (.keep (.keep (.keep (.keep (.keep (.keep (.keep (.keep (.keep (.keep (.keep (.keep (.keep (.keep (.keep .nil)))))))))))))))))) rfl)) (fun _ => rfl) (fun _ => rfl) (fun s48 => (bj_nil (G' := [sv tScr a.1, some ⟨(kL (kVal tInt)), v38.1⟩, sv (tList (tList (tList tInt))) v8.1, sv (tList (tList (tList tInt))) xs30, sv (ty_Merge cA) v12, sv (ty_Merge cA) v13, none, none, none, none, none, none, none, none, none, none, none, none]) (a := Step.nx v38.1) (by exact .keep (.keep (.keep (.keep (.keep (.keep (.keep (.keep (.drop (.drop (.drop (.keep (.keep (.keep (.keep (.keep (.keep (.keep .nil)))))))))))))))))) rfl)))))))))) (fun _ => ⟨_, _, _, rfl⟩) (fun _ => rfl) (fun s36 => (bj_set 12 nd_law rfl (Or.inr rfl) (ej_callM (κ := (kVal tInt)) (κr := (kVal tInt)) (arg := fun c => (s36, c)) 1 (fnat 1 h_take (Nat.le_of_ble_eq_true rfl)) (imm_kVal imm_int) (imm_kVal imm_int) rfl rfl (Or.inr (Or.inl rfl)) rfl (aj_cons pj_int aj_nil) (fun _ _ => rfl) (fun _ => rfl)) (fun (v49 : B_take) => (bj_setLcS 13 nd_law rfl rfl rfl rfl rfl rfl (lcj (κ := (kVal (tList tInt))) [("x", 16)] rfl (pij_rng1 16 nd_law rfl (Or.inr rfl) (Or.inl rfl) rfl hG.range_ pj_int) (by decide) (fun x51 => tsj_nil) (fun x51 => (oj_of_pj (pj_of_oj (κ := (kL (kVal tInt))) (oj_lc nd_law rfl (lcj (κ := (kVal tInt)) [("y", 17)] rfl (pij_rng1 17 nd_law rfl (Or.inl rfl) (Or.inr rfl) rfl hG.range_ pj_int) (by decide) (fun x52 => tsj_nil) (fun x52 => (oj_of_pj (pj_mod (pj_int1 rfl hG.int_ (pj_add (pj_add (pj_vv tInt 16 x51 nm_law rfl (Or.inr (Or.inl rfl)) rfl) (pj_vv tInt 17 x52 nm_law rfl (Or.inl rfl) rfl)) (pj_vv tInt 12 v49.2 nm_law rfl (Or.inr (Or.inl rfl)) rfl))) pj_int))))))))) (fun v50 => (bj_wk (G' := [sv tScr a.1, some ⟨(kL (kVal tInt)), v49.1⟩, sv (tList (tList (tList tInt))) v8.1, sv (tList (tList (tList tInt))) xs30, sv (ty_Merge cA) v12, sv (ty_Merge cA) v13, none, none, none, none, none, none, sv tInt v49.2, sv (tList (tList tInt)) v50, none, none, none, none]) (by exact .keep (.keep (.keep (.keep (.keep (.keep (.keep (.keep (.keep (.keep (.keep (.keep (.keep (.let (.keep (.keep (.keep (.keep .nil)))))))))))))))))) (bj_ifT (finz := (fun b => .rt (gx_law cA pn b) (kVal tBool) b)) (inj := (fun z => z)) (etj_of (tj_wj (wj_or (tj_isOB .isnot (pj_of_oj (κ := (kVal (tOpt tBool))) (oj_call (κ := (kVal (tOpt tBool))) (arg := fun c => c) (fnat 5 h_refused (Nat.le_of_ble_eq_true rfl)) rfl (aj_cons (pj_vv (tList (tList tInt)) 13 v50 nm_law rfl (Or.inl rfl) rfl) aj_nil) (fun _ _ => rfl) (fun _ => rfl))) pj_bl) (wj_or1 (tj_isOB .isnot (pj_of_oj (κ := (kVal (tOpt tBool))) (oj_call (κ := (kVal (tOpt tBool))) (arg := fun c => c) (fnat 5 h_refused (Nat.le_of_ble_eq_true rfl)) rfl (aj_cons (pj_of_oj (κ := (kL (kVal (tList tInt)))) (oj_lst (es_nil (τ := (tList tInt))) (by decide))) aj_nil) (fun _ _ => rfl) (fun _ => rfl))) pj_bl))))) (fun (b53 : Bool) => (bj_rt (fun (v54 : Bool) => gx_law cA pn v54) (fun (v54 : Bool) => v54) (ej_imm (τ := tBool) pj_bl imm_bool) (fun _ => rfl) (by exact fun _ => .drop (.drop (.drop (.drop (.drop (.drop (.keep (.keep (.keep (.keep (.keep (.keep (.drop (.drop (.keep (.keep (.keep (.keep .nil)))))))))))))))))))) (fun _ => rfl) (fun _ => rfl) (fun (b53 : Bool) => (bj_set 14 nd_law rfl (Or.inr rfl) (ej_let (κ := (kL (kVal tInt))) (ej_callE (κ := (kVal tInt)) (κr := (kL (kVal tInt))) (τ := tInt) (arg := fun (r57 : ((Int) × (B_take) × Int)) => (r57.2.1.1, r57.2.2, ())) (xs := fun (r57 : ((Int) × (B_take) × Int)) => r57.2.1.1) (v := fun (r57 : ((Int) × (B_take) × Int)) => r57.2.2) 1 (fnat 2 h_shuffled (Nat.le_of_ble_eq_true rfl)) (imm_kVal imm_int) (imm_kLP (imm_kVal imm_int)) flat_int rfl rfl (Or.inr (Or.inl rfl)) rfl (ej_op .add (x := fun (r55 : Int) => r55) (y := fun (r55 : Int) (r56 : B_take) => r56.2) (ej_imm (τ := tInt) pj_int imm_int) (fun (r55 : Int) => (ej_callM (κ := (kVal tInt)) (κr := (kVal tInt)) (arg := fun c => (v49.1, c)) 1 (fnat 1 h_take (Nat.le_of_ble_eq_true rfl)) (imm_kVal imm_int) (imm_kVal imm_int) rfl rfl (Or.inr (Or.inl rfl)) rfl (aj_cons pj_int aj_nil) (fun _ _ => rfl) (fun _ => rfl)))) (fun _ => rfl) (fun _ _ => rfl))) (fun (v58 : ((((Int) × (B_take) × Int)) × B_shuffled)) => (bj_wk (G' := [sv tScr a.1, sv (tList tInt) v58.2.1, sv (tList (tList (tList tInt))) v8.1, sv (tList (tList (tList tInt))) xs30, sv (ty_Merge cA) v12, sv (ty_Merge cA) v13, none, none, none, none, none, none, sv tInt v49.2, sv (tList (tList tInt)) v50, sv (tList tInt) v58.2.2, none, none, none]) (by exact .keep (.let (.keep (.keep (.keep (.keep (.keep (.keep (.keep (.keep (.keep (.keep (.keep (.keep (.keep (.keep (.keep (.keep .nil)))))))))))))))))) (bj_setLc 15 nd_law rfl rfl rfl rfl rfl rfl (lcj (κ := (kVal tInt)) [("k", 8)] rfl (pij_rng1 8 nd_law rfl (Or.inl rfl) (Or.inr rfl) rfl hG.range_ (pj_len (sqList tInt) rfl hG.len_ (pj_vv (tList tInt) 14 v58.2.2 nm_law rfl (Or.inr (Or.inl rfl)) rfl))) (by decide) (fun x60 => tsj_nil) (fun x60 => (oj_of_pj (pj_index (pj_vv (tList tInt) 14 v58.2.2 nm_law rfl (Or.inr (Or.inl rfl)) rfl) (pj_vv tInt 8 x60 nm_law rfl (Or.inl rfl) rfl))))) (imm_kVal imm_int) (fun v59 => (bj_wk (G' := [sv tScr a.1, sv (tList tInt) v58.2.1, sv (tList (tList (tList tInt))) v8.1, sv (tList (tList (tList tInt))) xs30, sv (ty_Merge cA) v12, sv (ty_Merge cA) v13, none, none, none, none, none, none, sv tInt v49.2, sv (tList (tList tInt)) v50, sv (tList tInt) v58.2.2, sv (tList tInt) v59, none, none]) (by exact .keep (.keep (.keep (.keep (.keep (.keep (.keep (.keep (.keep (.keep (.keep (.keep (.keep (.keep (.keep (.let (.keep (.keep .nil)))))))))))))))))) (bj_ifT (finz := (fun b => .rt (gx_law cA pn b) (kVal tBool) b)) (inj := (fun z => z)) (etj_of (tj_wj (wj_or (tj_not (tj_val (pj_of_oj (κ := (kVal tBool)) (oj_call (κ := (kVal tBool)) (arg := fun c => c) (fnat 3 h_inverted_fits (Nat.le_of_ble_eq_true rfl)) rfl (aj_cons (pj_of_oj (κ := (kL (kVal tInt))) (oj_list (sqList tInt) rfl hG.list_ (pj_vv (tList tInt) 14 v58.2.2 nm_law rfl (Or.inr (Or.inl rfl)) rfl))) (aj_cons (pj_vv (tList tInt) 14 v58.2.2 nm_law rfl (Or.inr (Or.inl rfl)) rfl) (aj_cons (pj_vv (tList tInt) 15 v59 nm_law rfl (Or.inl rfl) rfl) aj_nil))) (fun _ _ => rfl) (fun _ => rfl))))) (wj_or1 (tj_not (tj_val (pj_of_oj (κ := (kVal tBool)) (oj_call (κ := (kVal tBool)) (arg := fun c => c) (fnat 3 h_inverted_fits_1 (Nat.le_of_ble_eq_true rfl)) rfl (aj_cons (pj_tuple (sqList tInt) rfl hG.tuple_ (pj_vv (tList tInt) 14 v58.2.2 nm_law rfl (Or.inr (Or.inl rfl)) rfl)) (aj_cons (pj_vv (tList tInt) 14 v58.2.2 nm_law rfl (Or.inr (Or.inl rfl)) rfl) (aj_cons (pj_vv (tList tInt) 15 v59 nm_law rfl (Or.inl rfl) rfl) aj_nil))) (fun _ _ => rfl) (fun _ => rfl))))))))) (fun (b61 : Bool) => (bj_rt (fun (v62 : Bool) => gx_law cA pn v62) (fun (v62 : Bool) => v62) (ej_imm (τ := tBool) pj_bl imm_bool) (fun _ => rfl) (by exact fun _ => .drop (.drop (.drop (.drop (.drop (.drop (.keep (.keep (.keep (.keep (.keep (.keep (.drop (.drop (.drop (.drop (.keep (.keep .nil)))))))))))))))))))) (fun _ => rfl) (fun _ => rfl) (fun (b61 : Bool) => (bj_rt (fun (v63 : Bool) => gx_law cA pn v63) (fun (v63 : Bool) => v63) (ej_imm (τ := tBool) (pj_and (pj_of_oj (κ := (kVal tBool)) (oj_call (κ := (kVal tBool)) (arg := fun c => c) (fnat 3 h_alike_3 (Nat.le_of_ble_eq_true rfl)) rfl (aj_cons (pj_of_oj (κ := (kVal (tTup (tT3 tInt tInt tInt)))) (oj_meth0 (κ := (kVal (tTup (tT3 tInt tInt tInt)))) (arg := fun x => (x, ())) (methat 1 h_Merge_triples hX.cl_Merge (Nat.le_of_ble_eq_true rfl)) (pj_vc (C := cA.Merge_) (T := R_Merge) (flds := fl_Merge_4 cA) 4 v12 nm_law rfl (Or.inl rfl) rfl) (fun _ => rfl) (fun _ _ => rfl))) (aj_cons (pj_of_oj (κ := (kL (kVal (tList tInt)))) (oj_call (κ := (kL (kVal (tList tInt)))) (arg := fun c => c) (fnat 1 h_triples (Nat.le_of_ble_eq_true rfl)) rfl (aj_cons (pj_ixL (τ := (tList (tList tInt))) (fun _ _ => rfl) (pj_vv (tList (tList (tList tInt))) 2 v8.1 nm_law rfl (Or.inl rfl) rfl) pj_int) aj_nil) (fun _ _ => rfl) (fun _ => rfl))) aj_nil)) (fun _ _ => rfl) (fun _ => rfl))) (pj_one (pj_of_oj (κ := (kVal tBool)) (oj_call (κ := (kVal tBool)) (arg := fun c => c) (fnat 3 h_alike_1 (Nat.le_of_ble_eq_true rfl)) rfl (aj_cons (pj_fld (τ := (tTup (tTup tInt))) (get := (fun x => x.1.1.1.2)) hX.cl_Merge hX.na_Merge_rows (fun _ => rfl) (pj_vc (C := cA.Merge_) (T := R_Merge) (flds := fl_Merge_4 cA) 5 v13 nm_law rfl (Or.inl rfl) rfl)) (aj_cons (pj_ixL (τ := (tList (tList tInt))) (fun _ _ => rfl) (pj_vv (tList (tList (tList tInt))) 2 v8.1 nm_law rfl (Or.inl rfl) rfl) pj_int) aj_nil)) (fun _ _ => rfl) (fun _ => rfl))))) imm_bool) (fun _ => rfl) (by exact fun _ => .drop (.drop (.drop (.drop (.drop (.drop (.keep (.keep (.keep (.keep (.keep (.keep (.drop (.drop (.drop (.drop (.keep (.keep .nil))))))))))))))))))))))))))))))))))))))))))))))))))))))⟩
abbrev m_law : A_law → Res B_law := d_law.1
abbrev sp_law (K : Fg) (mg : Str → Option Value) (cA : Ad) : Sp := SpOf K mg 1 (gp_law cA) m_law (gx_law cA) (kVal tBool) (fun b => b)

end K00

end

set_option Elab.async false
set_option linter.all false
set_option maxRecDepth 100000
set_option maxHeartbeats 0
noncomputable section
namespace K00
open PySem L2 TM He

/-! the walk's end -/
def adOf (K : Fg) : Ad := ⟨He.ga K "Fault", He.ga K "BadMerge", He.ga K "BadWeb", He.ga K "BadNet", He.ga K "BadGroup", He.ga K "Merge"⟩
def dD0 : He.DefD := ⟨("_law_numbers", none), "_law_numbers", "_law_numbers", defArgs S_numbers, defBody S_numbers, defScope S_numbers, [], []⟩
def dD1 : He.DefD := ⟨("_law_take", none), "_law_take", "_law_take", defArgs S_take, defBody S_take, defScope S_take, [], []⟩
def dD2 : He.DefD := ⟨("_law_row", none), "_law_row", "_law_row", defArgs S_row, defBody S_row, defScope S_row, [], []⟩
def dD3 : He.DefD := ⟨("_law_latin", none), "_law_latin", "_law_latin", defArgs S_latin, defBody S_latin, defScope S_latin, [], []⟩
def dD4 : He.DefD := ⟨("is_renaming", none), "is_renaming", "is_renaming", defArgs S_is_renaming, defBody S_is_renaming, defScope S_is_renaming, [], []⟩
def dD5 : He.DefD := ⟨("check_table", none), "check_table", "check_table", defArgs S_check_table, defBody S_check_table, defScope S_check_table, [], []⟩
def dD6 : He.DefD := ⟨("inverted", none), "inverted", "inverted", defArgs S_inverted, defBody S_inverted, defScope S_inverted, [], []⟩
def dD7 : He.DefD := ⟨("Merge", some "__init__"), "__init__", "Merge.__init__", defArgs S_Merge_init, defBody S_Merge_init, defScope S_Merge_init, [], []⟩
def dD8 : He.DefD := ⟨("_law_alike", none), "_law_alike", "_law_alike", defArgs S_alike, defBody S_alike, defScope S_alike, [], []⟩
def dD9 : He.DefD := ⟨("Merge", some "triples"), "triples", "Merge.triples", defArgs S_Merge_triples, defBody S_Merge_triples, defScope S_Merge_triples, [], []⟩
def dD10 : He.DefD := ⟨("_law_triples", none), "_law_triples", "_law_triples", defArgs S_triples, defBody S_triples, defScope S_triples, [], []⟩
def dD11 : He.DefD := ⟨("Merge", some "table"), "table", "Merge.table", defArgs S_Merge_table, defBody S_Merge_table, defScope S_Merge_table, [], []⟩
def dD12 : He.DefD := ⟨("Merge", some "tell"), "tell", "Merge.tell", defArgs S_Merge_tell, defBody S_Merge_tell, defScope S_Merge_tell, [], []⟩
def dD13 : He.DefD := ⟨("_law_tell", none), "_law_tell", "_law_tell", defArgs S_tell, defBody S_tell, defScope S_tell, [], []⟩
def dD14 : He.DefD := ⟨("Merge", some "holds"), "holds", "Merge.holds", defArgs S_Merge_holds, defBody S_Merge_holds, defScope S_Merge_holds, [], []⟩
def dD15 : He.DefD := ⟨("_law_bool", none), "_law_bool", "_law_bool", defArgs S_bool, defBody S_bool, defScope S_bool, [], []⟩
def dD16 : He.DefD := ⟨("_law_renaming", none), "_law_renaming", "_law_renaming", defArgs S_renaming, defBody S_renaming, defScope S_renaming, [], []⟩
def dD17 : He.DefD := ⟨("Merge", some "renaming"), "renaming", "Merge.renaming", defArgs S_Merge_renaming, defBody S_Merge_renaming, defScope S_Merge_renaming, [], []⟩
def dD18 : He.DefD := ⟨("_law_inverted_fits", none), "_law_inverted_fits", "_law_inverted_fits", defArgs S_inverted_fits, defBody S_inverted_fits, defScope S_inverted_fits, [], []⟩
def dD19 : He.DefD := ⟨("_law_renamings_fit", none), "_law_renamings_fit", "_law_renamings_fit", defArgs S_renamings_fit, defBody S_renamings_fit, defScope S_renamings_fit, [], []⟩
def dD20 : He.DefD := ⟨("_law_merge_fits", none), "_law_merge_fits", "_law_merge_fits", defArgs S_merge_fits, defBody S_merge_fits, defScope S_merge_fits, [], []⟩
def dD21 : He.DefD := ⟨("_law_swap", none), "_law_swap", "_law_swap", defArgs S_swap, defBody S_swap, defScope S_swap, [], []⟩
def dD22 : He.DefD := ⟨("_law_bent", none), "_law_bent", "_law_bent", defArgs S_bent, defBody S_bent, defScope S_bent, [], []⟩
def dD23 : He.DefD := ⟨("_law_is_merge", none), "_law_is_merge", "_law_is_merge", defArgs S_is_merge, defBody S_is_merge, defScope S_is_merge, [], []⟩
def dD24 : He.DefD := ⟨("_law_refused", none), "_law_refused", "_law_refused", defArgs S_refused, defBody S_refused, defScope S_refused, [], []⟩
def dD25 : He.DefD := ⟨("_law_shuffled", none), "_law_shuffled", "_law_shuffled", defArgs S_shuffled, defBody S_shuffled, defScope S_shuffled, [], []⟩
def dD26 : He.DefD := ⟨("law", none), "law", "law", defArgs S_law, defBody S_law, defScope S_law, [], []⟩
def dfn_0 : List He.DefD := [dD0, dD1, dD2, dD3, dD4, dD5, dD6, dD7, dD8, dD9, dD10, dD11, dD12, dD13, dD14, dD15, dD16, dD17, dD18, dD19, dD20, dD21, dD22, dD23, dD24, dD25, dD26]
def dfn : List He.DefD := (dfn_0)
def dfa_0 : List He.Fa := [.int "MOST_ORDER" 8, .free "abs", .free "bool", .free "enumerate", .free "int", .free "isinstance", .free "len", .free "list", .free "range", .free "sorted", .free "tuple", .glo "Fault", .glo "BadMerge", .glo "BadWeb", .glo "BadNet", .glo "BadGroup", .glo "Merge", .exc "BadMerge", .exm "BadGroup" "BadMerge" false, .exm "BadMerge" "BadMerge" true, .exm "BadNet" "BadMerge" false, .exm "BadWeb" "BadMerge" false, .exm "Fault" "BadMerge" false, .exm "BadGroup" "Fault" true, .exm "BadMerge" "Fault" true, .exm "BadNet" "Fault" true, .exm "BadWeb" "Fault" true, .exm "Fault" "Fault" true, .cls "Merge", .noat "Merge" "_firsts"]
def dfa_1 : List He.Fa := [.noat "Merge" "_seconds", .noat "Merge" "order", .noat "Merge" "rows", .free "ValueError", .glo "_law_numbers", .glo "_law_take", .glo "_law_row", .glo "_law_latin", .glo "is_renaming", .glo "check_table", .glo "inverted", .mkr "Merge", .glo "_law_alike", .meth "Merge" "triples", .glo "_law_triples", .meth "Merge" "table", .meth "Merge" "tell", .glo "_law_tell", .meth "Merge" "holds", .glo "_law_bool", .glo "_law_renaming", .meth "Merge" "renaming", .glo "_law_inverted_fits", .glo "_law_renamings_fit", .glo "_law_merge_fits", .glo "_law_swap", .glo "_law_bent", .glo "_law_is_merge", .glo "_law_refused", .glo "_law_shuffled"]
def dfa_2 : List He.Fa := [.glo "law"]
def dfa : List He.Fa := (dfa_0) ++ (dfa_1) ++ (dfa_2)
def dfb_0 : List Fb := [.ins "Merge", .exc "BadMerge", .kit "BadMerge" "BadGroup" false, .kit "BadMerge" "BadNet" false, .kit "BadMerge" "BadWeb" false, .kit "BadMerge" "Fault" true, .kitT "BadMerge" "ValueError" true, .kit "Merge" "Merge" true]
def dfb : List Fb := (dfb_0)
abbrev R : PySem.W.OpenRow := PySem.W.OpenLaw.row PySem.Challenge.rw_mergesofmany_k00_any_two_tell_the_third
abbrev hk : PySem.W.Hook := hookM 5 dfa dfn dfb
def ob (s : PySem.W.SharedT) : AlM := obsMG 5 dfa dfn dfb (HandSHeadRun.getT s)
theorem ob_eq (s : PySem.W.SharedT) : ob s = hk.obs s.abs := obsMG_eq (HandSHeadRun.getT_eq s)
def loose_0 : List PySem.Str := ["Fault", "BadMerge", "BadWeb", "BadNet", "BadGroup", "MOST_ORDER", "is_renaming", "inverted", "check_table", "Merge", "_law_numbers", "_law_take", "_law_shuffled", "_law_row", "_law_latin", "_law_swap", "_law_tell", "_law_alike", "_law_bool", "_law_renaming", "_law_triples", "_law_is_merge", "_law_bent", "_law_refused", "_law_inverted_fits", "_law_renamings_fit", "_law_merge_fits"]
def loose : List PySem.Str := (loose_0)
theorem run (w : World) : HandSHeadRun.RunEq R (PySem.W.view R.prog [30]) hk ob 5000 loose w := by
  intro os
  kernel_rfl
theorem facts {P : Program} {w : World} {K : PySem.W.Frag} {h : Heap} {mg : Str → Option Value} {f : Addr} (X : K.In h) (G : h.Ns mainGlobals mg) (hfa : mg ("law" : Str) = some (.ref f)) (c : SaysM dfa dfn dfb K) :
    ∃ fd : FuncData, (∀ (s : Shared) (v : Value), BindsTo s fd ⟨[v], []⟩ [("script", v)]) ∧ ∀ base : Heap, K.In base → base.Ns mainGlobals mg → FnOk P w K mg base (L2.CX P w) 6 f fd ["script"] (sp_law K mg (adOf K)) := by
  have e := hfa.symm.trans (glo_ok X G (c.fact 60))
  cases e
  have hG : Gl mg := ⟨int_ok X G (c.fact 0), free_ok X G (c.fact 1), free_ok X G (c.fact 2), free_ok X G (c.fact 3), free_ok X G (c.fact 4), free_ok X G (c.fact 5), free_ok X G (c.fact 6), free_ok X G (c.fact 7), free_ok X G (c.fact 8), free_ok X G (c.fact 9), free_ok X G (c.fact 10)⟩
  have hX : Cf K mg (adOf K) := ⟨glo_ok X G (c.fact 11), glo_ok X G (c.fact 12), glo_ok X G (c.fact 13), glo_ok X G (c.fact 14), glo_ok X G (c.fact 15), glo_ok X G (c.fact 16), exg_ok X G (c.fact 12) (c.fact 17), exmg_ok X G (c.fact 15) (c.fact 18), exmg_ok X G (c.fact 12) (c.fact 19), exmg_ok X G (c.fact 14) (c.fact 20), exmg_ok X G (c.fact 13) (c.fact 21), exmg_ok X G (c.fact 11) (c.fact 22), exmg_ok X G (c.fact 15) (c.fact 23), exmg_ok X G (c.fact 12) (c.fact 24), exmg_ok X G (c.fact 14) (c.fact 25), exmg_ok X G (c.fact 13) (c.fact 26), exmg_ok X G (c.fact 11) (c.fact 27), cls_ok (c.fact 28), noat_ok (c.fact 29), noat_ok (c.fact 30), noat_ok (c.fact 31), noat_ok (c.fact 32), ins_ok (cls_ok (c.fact 28)) (c.extra 0), ieg_ok X G (c.fact 12) (c.fact 15) (c.extra 1) (c.extra 2), ieg_ok X G (c.fact 12) (c.fact 14) (c.extra 1) (c.extra 3), ieg_ok X G (c.fact 12) (c.fact 13) (c.extra 1) (c.extra 4), ieg_ok X G (c.fact 12) (c.fact 11) (c.extra 1) (c.extra 5), iegT_ok X G (c.fact 12) (c.fact 33) (c.extra 1) (T := "ValueError") (by decide +kernel) (by decide) (c.extra 6), kit_ok (c.extra 7)⟩
  obtain ⟨fd0, F0⟩ := c.def_ 0 (d := dD0) rfl
  obtain ⟨fd1, F1⟩ := c.def_ 1 (d := dD1) rfl
  obtain ⟨fd2, F2⟩ := c.def_ 2 (d := dD2) rfl
  obtain ⟨fd3, F3⟩ := c.def_ 3 (d := dD3) rfl
  obtain ⟨fd4, F4⟩ := c.def_ 4 (d := dD4) rfl
  obtain ⟨fd5, F5⟩ := c.def_ 5 (d := dD5) rfl
  obtain ⟨fd6, F6⟩ := c.def_ 6 (d := dD6) rfl
  obtain ⟨fd7, F7⟩ := c.def_ 7 (d := dD7) rfl
  obtain ⟨fd8, F8⟩ := c.def_ 8 (d := dD8) rfl
  obtain ⟨fd9, F9⟩ := c.def_ 9 (d := dD9) rfl
  obtain ⟨fd10, F10⟩ := c.def_ 10 (d := dD10) rfl
  obtain ⟨fd11, F11⟩ := c.def_ 11 (d := dD11) rfl
  obtain ⟨fd12, F12⟩ := c.def_ 12 (d := dD12) rfl
  obtain ⟨fd13, F13⟩ := c.def_ 13 (d := dD13) rfl
  obtain ⟨fd14, F14⟩ := c.def_ 14 (d := dD14) rfl
  obtain ⟨fd15, F15⟩ := c.def_ 15 (d := dD15) rfl
  obtain ⟨fd16, F16⟩ := c.def_ 16 (d := dD16) rfl
  obtain ⟨fd17, F17⟩ := c.def_ 17 (d := dD17) rfl
  obtain ⟨fd18, F18⟩ := c.def_ 18 (d := dD18) rfl
  obtain ⟨fd19, F19⟩ := c.def_ 19 (d := dD19) rfl
  obtain ⟨fd20, F20⟩ := c.def_ 20 (d := dD20) rfl
  obtain ⟨fd21, F21⟩ := c.def_ 21 (d := dD21) rfl
  obtain ⟨fd22, F22⟩ := c.def_ 22 (d := dD22) rfl
  obtain ⟨fd23, F23⟩ := c.def_ 23 (d := dD23) rfl
  obtain ⟨fd24, F24⟩ := c.def_ 24 (d := dD24) rfl
  obtain ⟨fd25, F25⟩ := c.def_ 25 (d := dD25) rfl
  obtain ⟨fd26, F26⟩ := c.def_ 26 (d := dD26) rfl
  have b := FunD.bindsA (ps := ["script"]) F26 fun _ _ _ _ _ _ us hl => match us, hl with | [_], _ => rfl
  refine ⟨fd26, fun s v => b s [v] rfl, fun base _ _ => ?_⟩
  have h_numbers : FnG P w K mg base 1 "_law_numbers" ["script", "many"] (sp_numbers K mg (adOf K)) := ⟨_, _, (fn_okD F0 sc_numbers rfl fun pn a => d_numbers.2 P w K mg base (adOf K) hG hX  pn a), glo_ok X G (c.fact 34), F0.kp, FunD.bindsN F0 fun _ _ _ _ _ _ us hl => match us, hl with | [_, _], _ => rfl⟩
  have h_take : FnG P w K mg base 1 "_law_take" ["numbers", "many"] (sp_take K mg (adOf K)) := ⟨_, _, (fn_okD F1 sc_take rfl fun pn a => d_take.2 P w K mg base (adOf K) hG hX  pn a), glo_ok X G (c.fact 35), F1.kp, FunD.bindsN F1 fun _ _ _ _ _ _ us hl => match us, hl with | [_, _], _ => rfl⟩
  have h_row : FnG P w K mg base 2 "_law_row" ["numbers", "order", "rows"] (sp_row K mg (adOf K)) := ⟨_, _, (fn_okD F2 sc_row rfl fun pn a => d_row.2 P w K mg base (adOf K) hG hX h_take pn a), glo_ok X G (c.fact 36), F2.kp, FunD.bindsN F2 fun _ _ _ _ _ _ us hl => match us, hl with | [_, _, _], _ => rfl⟩
  have h_latin : FnG P w K mg base 3 "_law_latin" ["numbers", "order"] (sp_latin K mg (adOf K)) := ⟨_, _, (fn_okD F3 sc_latin rfl fun pn a => d_latin.2 P w K mg base (adOf K) hG hX h_row pn a), glo_ok X G (c.fact 37), F3.kp, FunD.bindsN F3 fun _ _ _ _ _ _ us hl => match us, hl with | [_, _], _ => rfl⟩
  have h_is_renaming : FnG P w K mg base 1 "is_renaming" ["names", "order"] (sp_is_renaming K mg (adOf K)) := ⟨_, _, (fn_okD F4 sc_is_renaming rfl fun pn a => d_is_renaming.2 P w K mg base (adOf K) hG hX  pn a), glo_ok X G (c.fact 38), F4.kp, FunD.bindsN F4 fun _ _ _ _ _ _ us hl => match us, hl with | [_, _], _ => rfl⟩
  have h_is_renaming_1 : FnG P w K mg base 1 "is_renaming" ["names", "order"] (sp_is_renaming_1 K mg (adOf K)) := ⟨_, _, (fn_okD F4 sc_is_renaming_1 rfl fun pn a => d_is_renaming_1.2 P w K mg base (adOf K) hG hX  pn a), glo_ok X G (c.fact 38), F4.kp, FunD.bindsN F4 fun _ _ _ _ _ _ us hl => match us, hl with | [_, _], _ => rfl⟩
  have h_check_table : FnG P w K mg base 2 "check_table" ["rows"] (sp_check_table K mg (adOf K)) := ⟨_, _, (fn_okDN F5 sc_check_table rfl fun pn a => d_check_table.2 P w K mg base (adOf K) hG hX h_is_renaming h_is_renaming_1 pn a), glo_ok X G (c.fact 39), F5.kp, FunD.bindsN F5 fun _ _ _ _ _ _ us hl => match us, hl with | [_], _ => rfl⟩
  have h_inverted : FnG P w K mg base 1 "inverted" ["names"] (sp_inverted K mg (adOf K)) := ⟨_, _, (fn_okD F6 sc_inverted rfl fun pn a => d_inverted.2 P w K mg base (adOf K) hG hX  pn a), glo_ok X G (c.fact 40), F6.kp, FunD.bindsN F6 fun _ _ _ _ _ _ us hl => match us, hl with | [_], _ => rfl⟩
  have h_inverted_1 : FnG P w K mg base 1 "inverted" ["names"] (sp_inverted_1 K mg (adOf K)) := ⟨_, _, (fn_okD F6 sc_inverted_1 rfl fun pn a => d_inverted_1.2 P w K mg base (adOf K) hG hX  pn a), glo_ok X G (c.fact 40), F6.kp, FunD.bindsN F6 fun _ _ _ _ _ _ us hl => match us, hl with | [_], _ => rfl⟩
  have h_Merge_init : MakeG P w K mg base (adOf K).Merge_ 3 "Merge" ["self", "rows"] (sp_Merge_init K mg (adOf K)) := ⟨⟨_, _, (fn_okDN F7 sc_Merge_init rfl fun pn a => d_Merge_init.2 P w K mg base (adOf K) hG hX h_check_table h_inverted h_inverted_1 pn a), mkr_ok (c.fact 41), FunD.bindsN F7 fun _ _ _ _ _ _ us hl => match us, hl with | [_, _], _ => rfl⟩, glo_ok X G (c.fact 16)⟩
  have h_alike : FnG P w K mg base 1 "_law_alike" ["found", "due"] (sp_alike K mg (adOf K)) := ⟨_, _, (fn_okD F8 sc_alike rfl fun pn a => d_alike.2 P w K mg base (adOf K) hG hX  pn a), glo_ok X G (c.fact 42), F8.kp, FunD.bindsN F8 fun _ _ _ _ _ _ us hl => match us, hl with | [_, _], _ => rfl⟩
  have h_alike_2 : FnG P w K mg base 2 "_law_alike" ["found", "due"] (sp_alike_2 K mg (adOf K)) := ⟨_, _, (fn_okD F8 sc_alike_2 rfl fun pn a => d_alike_2.2 P w K mg base (adOf K) hG hX h_alike pn a), glo_ok X G (c.fact 42), F8.kp, FunD.bindsN F8 fun _ _ _ _ _ _ us hl => match us, hl with | [_, _], _ => rfl⟩
  have h_alike_1 : FnG P w K mg base 3 "_law_alike" ["found", "due"] (sp_alike_1 K mg (adOf K)) := ⟨_, _, (fn_okD F8 sc_alike_1 rfl fun pn a => d_alike_1.2 P w K mg base (adOf K) hG hX h_alike_2 pn a), glo_ok X G (c.fact 42), F8.kp, FunD.bindsN F8 fun _ _ _ _ _ _ us hl => match us, hl with | [_, _], _ => rfl⟩
  have h_Merge_triples : MethG P w K mg base (adOf K).Merge_ 1 "triples" ["self"] (sp_Merge_triples K mg (adOf K)) := ⟨_, _, (fn_okD F9 sc_Merge_triples rfl fun pn a => d_Merge_triples.2 P w K mg base (adOf K) hG hX  pn a), meth_ok (c.fact 43), FunD.bindsN F9 fun _ _ _ _ _ _ us hl => match us, hl with | [_], _ => rfl⟩
  have h_triples : FnG P w K mg base 1 "_law_triples" ["rows"] (sp_triples K mg (adOf K)) := ⟨_, _, (fn_okD F10 sc_triples rfl fun pn a => d_triples.2 P w K mg base (adOf K) hG hX  pn a), glo_ok X G (c.fact 44), F10.kp, FunD.bindsN F10 fun _ _ _ _ _ _ us hl => match us, hl with | [_], _ => rfl⟩
  have h_alike_4 : FnG P w K mg base 2 "_law_alike" ["found", "due"] (sp_alike_4 K mg (adOf K)) := ⟨_, _, (fn_okD F8 sc_alike_4 rfl fun pn a => d_alike_4.2 P w K mg base (adOf K) hG hX h_alike pn a), glo_ok X G (c.fact 42), F8.kp, FunD.bindsN F8 fun _ _ _ _ _ _ us hl => match us, hl with | [_, _], _ => rfl⟩
  have h_alike_3 : FnG P w K mg base 3 "_law_alike" ["found", "due"] (sp_alike_3 K mg (adOf K)) := ⟨_, _, (fn_okD F8 sc_alike_3 rfl fun pn a => d_alike_3.2 P w K mg base (adOf K) hG hX h_alike_4 pn a), glo_ok X G (c.fact 42), F8.kp, FunD.bindsN F8 fun _ _ _ _ _ _ us hl => match us, hl with | [_, _], _ => rfl⟩
  have h_Merge_table : MethG P w K mg base (adOf K).Merge_ 1 "table" ["self", "port"] (sp_Merge_table K mg (adOf K)) := ⟨_, _, (fn_okD F11 sc_Merge_table rfl fun pn a => d_Merge_table.2 P w K mg base (adOf K) hG hX  pn a), meth_ok (c.fact 45), FunD.bindsN F11 fun _ _ _ _ _ _ us hl => match us, hl with | [_, _], _ => rfl⟩
  have h_Merge_tell : MethG P w K mg base (adOf K).Merge_ 2 "tell" ["self", "port", "a", "b"] (sp_Merge_tell K mg (adOf K)) := ⟨_, _, (fn_okD F12 sc_Merge_tell rfl fun pn a => d_Merge_tell.2 P w K mg base (adOf K) hG hX h_Merge_table pn a), meth_ok (c.fact 46), FunD.bindsN F12 fun _ _ _ _ _ _ us hl => match us, hl with | [_, _, _, _], _ => rfl⟩
  have h_tell : FnG P w K mg base 1 "_law_tell" ["rows", "port", "a", "b"] (sp_tell K mg (adOf K)) := ⟨_, _, (fn_okD F13 sc_tell rfl fun pn a => d_tell.2 P w K mg base (adOf K) hG hX  pn a), glo_ok X G (c.fact 47), F13.kp, FunD.bindsN F13 fun _ _ _ _ _ _ us hl => match us, hl with | [_, _, _, _], _ => rfl⟩
  have h_Merge_holds : MethG P w K mg base (adOf K).Merge_ 1 "holds" ["self", "x", "y", "z"] (sp_Merge_holds K mg (adOf K)) := ⟨_, _, (fn_okD F14 sc_Merge_holds rfl fun pn a => d_Merge_holds.2 P w K mg base (adOf K) hG hX  pn a), meth_ok (c.fact 48), FunD.bindsN F14 fun _ _ _ _ _ _ us hl => match us, hl with | [_, _, _, _], _ => rfl⟩
  have h_bool : FnG P w K mg base 1 "_law_bool" ["found", "due"] (sp_bool K mg (adOf K)) := ⟨_, _, (fn_okD F15 sc_bool rfl fun pn a => d_bool.2 P w K mg base (adOf K) hG hX  pn a), glo_ok X G (c.fact 49), F15.kp, FunD.bindsN F15 fun _ _ _ _ _ _ us hl => match us, hl with | [_, _], _ => rfl⟩
  have h_renaming : FnG P w K mg base 1 "_law_renaming" ["rows", "start", "goal", "thing"] (sp_renaming K mg (adOf K)) := ⟨_, _, (fn_okD F16 sc_renaming rfl fun pn a => d_renaming.2 P w K mg base (adOf K) hG hX  pn a), glo_ok X G (c.fact 50), F16.kp, FunD.bindsN F16 fun _ _ _ _ _ _ us hl => match us, hl with | [_, _, _, _], _ => rfl⟩
  have h_Merge_renaming : MethG P w K mg base (adOf K).Merge_ 3 "renaming" ["self", "start", "goal", "thing"] (sp_Merge_renaming K mg (adOf K)) := ⟨_, _, (fn_okD F17 sc_Merge_renaming rfl fun pn a => d_Merge_renaming.2 P w K mg base (adOf K) hG hX h_Merge_tell pn a), meth_ok (c.fact 51), FunD.bindsN F17 fun _ _ _ _ _ _ us hl => match us, hl with | [_, _, _, _], _ => rfl⟩
  have h_inverted_fits : FnG P w K mg base 3 "_law_inverted_fits" ["given", "kept", "due"] (sp_inverted_fits K mg (adOf K)) := ⟨_, _, (fn_okD F18 sc_inverted_fits rfl fun pn a => d_inverted_fits.2 P w K mg base (adOf K) hG hX h_alike_2 h_inverted_1 pn a), glo_ok X G (c.fact 52), F18.kp, FunD.bindsN F18 fun _ _ _ _ _ _ us hl => match us, hl with | [_, _, _], _ => rfl⟩
  have h_renamings_fit : FnG P w K mg base 4 "_law_renamings_fit" ["merge", "rows"] (sp_renamings_fit K mg (adOf K)) := ⟨_, _, (fn_okD F19 sc_renamings_fit rfl fun pn a => d_renamings_fit.2 P w K mg base (adOf K) hG hX h_renaming h_alike_2 h_Merge_renaming h_inverted_fits pn a), glo_ok X G (c.fact 53), F19.kp, FunD.bindsN F19 fun _ _ _ _ _ _ us hl => match us, hl with | [_, _], _ => rfl⟩
  have h_merge_fits : FnG P w K mg base 5 "_law_merge_fits" ["merge", "rows"] (sp_merge_fits K mg (adOf K)) := ⟨_, _, (fn_okD F20 sc_merge_fits rfl fun pn a => d_merge_fits.2 P w K mg base (adOf K) hG hX h_alike_1 h_alike h_alike_3 h_triples h_Merge_triples h_tell h_Merge_tell h_bool h_Merge_holds h_renamings_fit pn a), glo_ok X G (c.fact 54), F20.kp, FunD.bindsN F20 fun _ _ _ _ _ _ us hl => match us, hl with | [_, _], _ => rfl⟩
  have h_swap : FnG P w K mg base 1 "_law_swap" ["rows", "c", "d"] (sp_swap K mg (adOf K)) := ⟨_, _, (fn_okDN F21 sc_swap rfl fun pn a => d_swap.2 P w K mg base (adOf K) hG hX  pn a), glo_ok X G (c.fact 55), F21.kp, FunD.bindsN F21 fun _ _ _ _ _ _ us hl => match us, hl with | [_, _, _], _ => rfl⟩
  have h_swap_1 : FnG P w K mg base 1 "_law_swap" ["rows", "c", "d"] (sp_swap_1 K mg (adOf K)) := ⟨_, _, (fn_okDN F21 sc_swap_1 rfl fun pn a => d_swap_1.2 P w K mg base (adOf K) hG hX  pn a), glo_ok X G (c.fact 55), F21.kp, FunD.bindsN F21 fun _ _ _ _ _ _ us hl => match us, hl with | [_, _, _], _ => rfl⟩
  have h_bent : FnG P w K mg base 2 "_law_bent" ["numbers", "rows"] (sp_bent K mg (adOf K)) := ⟨_, _, (fn_okD F22 sc_bent rfl fun pn a => d_bent.2 P w K mg base (adOf K) hG hX h_take h_swap_1 h_swap pn a), glo_ok X G (c.fact 56), F22.kp, FunD.bindsN F22 fun _ _ _ _ _ _ us hl => match us, hl with | [_, _], _ => rfl⟩
  have h_is_merge : FnG P w K mg base 1 "_law_is_merge" ["rows"] (sp_is_merge K mg (adOf K)) := ⟨_, _, (fn_okD F23 sc_is_merge rfl fun pn a => d_is_merge.2 P w K mg base (adOf K) hG hX  pn a), glo_ok X G (c.fact 57), F23.kp, FunD.bindsN F23 fun _ _ _ _ _ _ us hl => match us, hl with | [_], _ => rfl⟩
  have h_refused : FnG P w K mg base 5 "_law_refused" ["rows"] (sp_refused K mg (adOf K)) := ⟨_, _, (fn_okD F24 sc_refused rfl fun pn a => d_refused.2 P w K mg base (adOf K) hG hX h_Merge_init pn a), glo_ok X G (c.fact 58), F24.kp, FunD.bindsN F24 fun _ _ _ _ _ _ us hl => match us, hl with | [_], _ => rfl⟩
  have h_bool_1 : FnG P w K mg base 1 "_law_bool" ["found", "due"] (sp_bool_1 K mg (adOf K)) := ⟨_, _, (fn_okD F15 sc_bool_1 rfl fun pn a => d_bool_1.2 P w K mg base (adOf K) hG hX  pn a), glo_ok X G (c.fact 49), F15.kp, FunD.bindsN F15 fun _ _ _ _ _ _ us hl => match us, hl with | [_, _], _ => rfl⟩
  have h_shuffled : FnG P w K mg base 2 "_law_shuffled" ["numbers", "many"] (sp_shuffled K mg (adOf K)) := ⟨_, _, (fn_okD F25 sc_shuffled rfl fun pn a => d_shuffled.2 P w K mg base (adOf K) hG hX h_take pn a), glo_ok X G (c.fact 59), F25.kp, FunD.bindsN F25 fun _ _ _ _ _ _ us hl => match us, hl with | [_, _], _ => rfl⟩
  have h_inverted_fits_1 : FnG P w K mg base 3 "_law_inverted_fits" ["given", "kept", "due"] (sp_inverted_fits_1 K mg (adOf K)) := ⟨_, _, (fn_okD F18 sc_inverted_fits_1 rfl fun pn a => d_inverted_fits_1.2 P w K mg base (adOf K) hG hX h_alike_2 h_inverted pn a), glo_ok X G (c.fact 52), F18.kp, FunD.bindsN F18 fun _ _ _ _ _ _ us hl => match us, hl with | [_, _, _], _ => rfl⟩
  exact (fn_okD F26 sc_law rfl fun pn a => d_law.2 P w K mg base (adOf K) hG hX h_numbers h_latin h_take h_Merge_init h_merge_fits h_bent h_is_merge h_bool_1 h_refused h_alike_1 h_alike_3 h_triples h_Merge_triples h_shuffled h_inverted_fits_1 h_inverted_fits pn a)

end K00

end

set_option Elab.async false
set_option linter.all false
set_option maxRecDepth 100000
namespace K00
open PySem L2 TM PL
/-! ### rectangles -/
def Rect (n : Nat) (rows : List (List Int)) : Prop := (∀ row, row ∈ rows → row.Perm (nats n)) ∧ rows.Pairwise fun r s => ∀ y : Nat, y < n → r[y]? ≠ s[y]?
def gone (rows : List (List Int)) (w : Nat) : List Int := rows.map fun row => gd row w
def al (rows : List (List Int)) (w t : Nat) : Bool := !decide ((t : Int) ∈ gone rows w)
theorem perm_len {n : Nat} {row : List Int} (h : row.Perm (nats n)) : row.length = n := by rw [h.length_eq, nats_len]
theorem perm_rng {n : Nat} {row : List Int} (h : row.Perm (nats n)) {k : Nat} {x : Int} (e : row[k]? = some x) : 0 ≤ x ∧ x < n := nats_mem.mp (h.mem_iff.mp (List.mem_of_getElem? e))
theorem rect_A1 {n : Nat} {rows : List (List Int)} (w : Nat) : n - rows.length ≤ ((List.range n).filter fun t => al rows w t).length := by
  have e := filter_split (p := fun t : Nat => decide ((t : Int) ∈ gone rows w)) (l := List.range n)
  have nd : (((List.range n).filter fun t : Nat => decide ((t : Int) ∈ gone rows w)).map fun t : Nat => (t : Int)).Nodup := by
    refine List.pairwise_map.mpr ?_
    exact (List.Pairwise.filter _ List.nodup_range).imp fun ne e => ne (by omega)
  have s := sub_len (m := gone rows w) nd fun x hx => by
    obtain ⟨t, mt, rfl⟩ := List.mem_map.mp hx
    exact of_decide_eq_true (List.mem_filter.mp mt).2
  rw [List.length_map] at s
  have : (gone rows w).length = rows.length := List.length_map _
  rw [List.length_range] at e
  show n - rows.length ≤ ((List.range n).filter fun t : Nat => !decide ((t : Int) ∈ gone rows w)).length
  omega
def pos (t : Nat) (row : List Int) : Nat := row.findIdx fun y => decide (y = (t : Int))
theorem pos_ok {n t : Nat} {row : List Int} (h : row.Perm (nats n)) (ht : t < n) : pos t row < n ∧ row[pos t row]? = some (t : Int) := by
  have hm : (t : Int) ∈ row := h.mem_iff.mpr (nats_mem.mpr ⟨by omega, by omega⟩)
  have hl : pos t row < row.length := List.findIdx_lt_length_of_exists ⟨_, hm, by simp⟩
  have hg := List.findIdx_getElem (p := fun y => decide (y = (t : Int))) (xs := row) (w := hl)
  refine ⟨by rw [← perm_len h]; exact hl, ?_⟩
  rw [List.getElem?_eq_getElem hl]
  exact congrArg some (of_decide_eq_true hg)
theorem rect_A2 {n : Nat} {rows : List (List Int)} (R : Rect n rows) {t : Nat} (ht : t < n) : ((List.range n).filter fun w => al rows w t).length ≤ n - rows.length := by
  have e := filter_split (p := fun w : Nat => decide ((t : Int) ∈ gone rows w)) (l := List.range n)
  have nd : (rows.map (pos t)).Nodup := by
    refine List.pairwise_map.mpr ?_
    refine List.Pairwise.imp_of_mem ?_ R.2
    intro r s mr ms h e
    have h1 := pos_ok (R.1 r mr) ht
    have h2 := pos_ok (R.1 s ms) ht
    refine h _ h1.1 ?_
    rw [h1.2, e, h2.2]
  have s := sub_len (m := (List.range n).filter fun w : Nat => decide ((t : Int) ∈ gone rows w)) nd fun w hw => by
    obtain ⟨r, mr, rfl⟩ := List.mem_map.mp hw
    have h1 := pos_ok (R.1 r mr) ht
    refine List.mem_filter.mpr ⟨List.mem_range.mpr h1.1, decide_eq_true (List.mem_map.mpr ⟨r, mr, ?_⟩)⟩
    unfold gd
    rw [List.getD_eq_getElem?_getD, h1.2]; rfl
  rw [List.length_map] at s
  rw [List.length_range] at e
  show ((List.range n).filter fun w => !decide ((t : Int) ∈ gone rows w)).length ≤ n - rows.length
  omega
/-! ### the draws -/
theorem take_ok {nums : List Int} {n : Nat} (h : 0 < n) : (m_take (nums, (n : Int), ())).yes fun r => ∃ t : Nat, t < n ∧ r.2 = (t : Int) := by
  simp only [m_take, d_take, okb, eqb_tt, items_l, map_ok]
  by_cases hn : nums = []
  · subst hn
    exact yes_ok ⟨0, h, rfl⟩
  · have hl : ¬ ((nums.length : Int) = 0) := by
      have := List.length_pos_iff.mpr hn
      omega
    rw [if_neg hl, popE_ne hn, okb, modR_ok (by omega), okb, okb]
    refine yes_ok ⟨(nums.getLast hn % (n : Int)).toNat, ?_, ?_⟩
    · have := Int.emod_lt_of_pos (nums.getLast hn) (show (0 : Int) < n by omega)
      have := Int.emod_nonneg (nums.getLast hn) (show (n : Int) ≠ 0 by omega)
      omega
    · have := Int.emod_nonneg (nums.getLast hn) (show (n : Int) ≠ 0 by omega)
      show _ = (((nums.getLast hn % (n : Int)).toNat : Nat) : Int)
      rw [Int.toNat_of_nonneg this]

theorem gd_rep {n t : Nat} : gd ((List.range n).map fun _ => (-1 : Int)) t = -1 := by
  unfold gd
  rw [List.getD_eq_getElem?_getD, List.getElem?_map]
  cases (List.range n)[t]? <;> rfl
theorem mod_all {n a t : Nat} (ht : t < n) (ha : a < n) : ∃ j, j < n ∧ ((a : Int) + (j : Int)) % (n : Int) = (t : Int) := by
  by_cases h : a ≤ t
  · refine ⟨t - a, by omega, ?_⟩
    rw [show (a : Int) + ((t - a : Nat) : Int) = t by omega]
    exact Int.emod_eq_of_lt (by omega) (by omega)
  · refine ⟨t + n - a, by omega, ?_⟩
    rw [show (a : Int) + ((t + n - a : Nat) : Int) = t + n by omega, Int.add_emod_right]
    exact Int.emod_eq_of_lt (by omega) (by omega)
theorem row_ok {nums : List Int} {n : Nat} {rows : List (List Int)} (hn : n ≤ 8) (R : Rect n rows) (hr : rows.length < n) : (m_row (nums, (n : Int), rows, ())).yes fun r => Rect n (rows ++ [r.2]) := by
  have hn24 : n < 2 ^ 24 := by omega
  have hneg : compR (nats n) (fun _ => Res.ok true) (fun _ => Res.ok (-1 : Int)) = .ok ((List.range n).map fun _ => (-1 : Int)) := comp_nats fun _ _ => rfl
  simp only [m_row, d_row, okb, eqb_tt, eqb_ft, rngC_nat hn24, rng1_nat hn24, hneg, items_l, bind_id]
  refine yes_bind (P := fun s : List Int × List Int => Mt n n (al rows) s.2) (forM_nats (fun c (s : List Int × List Int) => Mt n c (al rows) s.2) ?_ fun c s hc M => ?_) fun s M => ?_
  · exact ⟨by simp, fun t _ => .inl gd_rep, fun t u _ _ _ h => (h gd_rep).elim, fun w hw => absurd hw (Nat.not_lt_zero w)⟩
  · obtain ⟨nums1, held⟩ := s
    replace M : Mt n c (al rows) held := M
    refine yes_bind (take_ok (by omega)) fun v6 ⟨wn, hwn, ew⟩ => ?_
    refine yes_bind (P := fun s : List Int × List Int × Int => Se n c (al rows) held s.1 s.2.1 s.2.2 n) (forM_nats (fun k (s : List Int × List Int × Int) => Se n c (al rows) held s.1 s.2.1 s.2.2 k) ?_ fun k s hk S => ?_) fun s S => ?_
    · -- the start
      refine ⟨by simp, rfl, by simp, fun i x e p => ?_, fun t _ h => (h gd_rep).elim, .inl rfl, fun _ i hi => absurd hi (Nat.not_lt_zero i)⟩
      cases i with
      | zero => exact absurd p (Nat.lt_irrefl 0)
      | succ i => simp at e
    · -- one column
      obtain ⟨b, W, g⟩ := s
      replace S : Se n c (al rows) held b W g k := S
      have skip : (g = -1 → W.length ≤ k) → Se n c (al rows) held b W g (k + 1) := fun q => ⟨S.len, S.w0, S.wnd, S.wc, S.bt, S.gl, fun e i hi x ex t ht ha => by
        by_cases z : i < k
        · exact S.dn e i z x ex t ht ha
        · have := q e
          have := (List.getElem?_eq_some_iff.mp ex).1
          omega⟩
      by_cases hg : g = -1
      · subst hg
        simp only [if_true, okb, decide_eq_true_eq]
        by_cases hkW : (k : Int) < (W.length : Int)
        · rw [if_pos hkW]
          obtain ⟨x, hx⟩ : ∃ x, W[k]? = some x := ⟨W[k]'(by omega), List.getElem?_eq_getElem _⟩
          have hx0 := S.rngW M hx
          have hgone : compR rows (fun _ => Res.ok true) (fun x => (atR W (k : Int)).bind fun y => atR x y) = .ok (gone rows x.toNat) := by
            refine comp_ok fun row hrow => ?_
            rw [atR_nat hx, okb]
            exact atR_int hx0.1 (gd_get (by rw [perm_len (R.1 row hrow)]; omega))
          rw [hgone, okb]
          refine yes_bind (P := fun s : List Int × List Int × Int => Se n c (al rows) held s.1 s.2.1 s.2.2 (k + 1)) (yes_bind (P := fun s : List Int × List Int × Int => Se n c (al rows) held s.1 s.2.1 s.2.2 k ∧ s.2.1[k]? = some x ∧ (s.2.2 = -1 → ∀ t, t < n → al rows x.toNat t = true → gd s.1 t ≠ -1)) (yes_mono (forM_nats (fun j (s : List Int × List Int × Int) => Se n c (al rows) held s.1 s.2.1 s.2.2 k ∧ s.2.1[k]? = some x ∧ (s.2.2 = -1 → ∀ i : Nat, i < j → ∀ t : Nat, t < n → ((wn : Int) + (i : Int)) % (n : Int) = (t : Int) → al rows x.toNat t = true → gd s.1 t ≠ -1)) ⟨S, hx, fun _ i hi => absurd hi (Nat.not_lt_zero i)⟩ fun j s hj ⟨S2, hx2, hp⟩ => ?_) fun s ⟨S2, hx2, hp⟩ => ⟨S2, hx2, fun e t ht ha => ?_⟩) fun s ⟨S2, hx2, hp⟩ => ?_) fun s S2 => yes_ok S2
          · -- one thing
            obtain ⟨b2, W2, g2⟩ := s
            replace S2 : Se n c (al rows) held b2 W2 g2 k := S2
            replace hx2 : W2[k]? = some x := hx2
            rw [ew, modR_ok (by omega), okb]
            obtain ⟨t, ht, et⟩ : ∃ t : Nat, t < n ∧ ((wn : Int) + (j : Int)) % (n : Int) = (t : Int) := by
              have h1 := Int.emod_lt_of_pos ((wn : Int) + (j : Int)) (show (0 : Int) < n by omega)
              have h2 := Int.emod_nonneg ((wn : Int) + (j : Int)) (show (n : Int) ≠ 0 by omega)
              exact ⟨(((wn : Int) + (j : Int)) % (n : Int)).toNat, by omega, by omega⟩
            rw [et]
            have stay : (g2 = -1 → ∀ u : Nat, u = t → al rows x.toNat u = true → gd b2 u ≠ -1) → (Res.ok (b2, W2, g2) : Res (List Int × List Int × Int)).yes fun s => Se n c (al rows) held s.1 s.2.1 s.2.2 k ∧ s.2.1[k]? = some x ∧ (s.2.2 = -1 → ∀ i : Nat, i < j + 1 → ∀ t : Nat, t < n → ((wn : Int) + (i : Int)) % (n : Int) = (t : Int) → al rows x.toNat t = true → gd s.1 t ≠ -1) := fun q => yes_ok ⟨S2, hx2, fun e i hi u hu eu ha => by
              by_cases z : i < j
              · exact hp e i z u hu eu ha
              · have : i = j := by omega
                subst this
                exact q e u (by omega) ha⟩
            by_cases hg2 : g2 = -1
            · subst hg2
              simp only [if_true]
              have hb2 : b2[t]? = some (gd b2 t) := gd_get (by rw [S2.len]; exact ht)
              rw [atR_nat hb2]
              simp only [okb, eqb_tt]
              by_cases hbt : gd b2 t = -1
              · rw [if_pos hbt]
                simp only [okb]
                by_cases ha : al rows x.toNat t = true
                · have hin : (inb true (t : Int) (gone rows x.toNat)) = true := ha
                  rw [if_pos hin, atR_nat hx2, okb, setR_nat (by rw [S2.len]; exact ht), okb]
                  have hh : held[t]? = some (gd held t) := gd_get (by rw [M.len]; exact ht)
                  rw [atR_nat hh]
                  simp only [okb, eqb_tt]
                  obtain ⟨k1, k2⟩ := S2.step M hx2 ht hbt ha
                  by_cases hht : gd held t = -1
                  · rw [if_pos hht]
                    exact yes_ok ⟨k1 hht, hx2, fun e => by
                      have e' : (t : Int) = -1 := e
                      omega⟩
                  · rw [if_neg hht]
                    have S3 := k2 hht
                    have hlW := S2.lenW M
                    rw [appR_ok (by omega)]
                    simp only [okb]
                    refine yes_ok ⟨S3, ?_, fun _ i hi u hu eu hau => ?_⟩
                    · show (W2 ++ [gd held t])[k]? = some x
                      rw [List.getElem?_append_left (List.getElem?_eq_some_iff.mp hx2).1]
                      exact hx2
                    · show gd (b2.set t x) u ≠ -1
                      rw [gd_set (by rw [S2.len]; exact ht)]
                      by_cases z : u = t
                      · rw [if_pos z]; omega
                      · rw [if_neg z]
                        by_cases z2 : i < j
                        · exact hp rfl i z2 u hu eu hau
                        · have : i = j := by omega
                          subst this
                          omega
                · have hin : ¬ (inb true (t : Int) (gone rows x.toNat)) = true := ha
                  rw [if_neg hin]
                  exact stay fun _ u hu hau => by subst hu; exact (ha hau).elim
              · rw [if_neg hbt]
                simp only [okb, Bool.false_eq_true, if_false]
                exact stay fun _ u hu _ => by subst hu; exact hbt
            · simp only [if_neg hg2, okb, Bool.false_eq_true, if_false]
              exact stay fun e => (hg2 e).elim
          · obtain ⟨j, hj, ej⟩ := mod_all ht hwn
            exact hp e j hj t ht ej ha
          · refine yes_ok ⟨S2.len, S2.w0, S2.wnd, S2.wc, S2.bt, S2.gl, fun e i hi y ey t ht ha => ?_⟩
            by_cases z : i < k
            · exact S2.dn e i z y ey t ht ha
            · have : i = k := by omega
              subst this
              have : y = x := Option.some.inj (ey.symm.trans hx2)
              subst this
              exact hp e t ht ha
        · rw [if_neg hkW]
          exact yes_ok (skip fun _ => by omega)
      · simp only [if_neg hg, okb, Bool.false_eq_true, if_false]
        exact yes_ok (skip fun e => (hg e).elim)
    · -- the way back
      obtain ⟨b, W, g⟩ := s
      replace S : Se n c (al rows) held b W g n := S
      have hg : g ≠ -1 := fun e => by
        subst e
        exact S.none M hc hr (fun w _ => rect_A1 w) (fun t ht => rect_A2 R ht)
      obtain ⟨t0, t0n, eg, _, _⟩ := S.gl.resolve_left hg
      obtain ⟨i0, hi0, A0⟩ := Au.start S M eg
      refine yes_bind (P := fun s : List Int × Int => s.2 = -1 ∧ Mt n (c + 1) (al rows) s.1) (yes_mono (forM_nats (fun k (s : List Int × Int) => (s.2 = -1 ∧ Mt n (c + 1) (al rows) s.1) ∨ ∃ t0 i : Nat, s.2 = (t0 : Int) ∧ i + k < n ∧ Au n c (al rows) held b W s.1 t0 i) (.inr ⟨t0, i0, eg, by omega, A0⟩) fun k s hk hs => ?_) fun s hs => ?_) fun s ⟨_, hs⟩ => yes_ok hs
      · obtain ⟨h', g'⟩ := s
        rcases hs with ⟨e, hs⟩ | ⟨t1, i1, e, hi1, A⟩
        · replace e : g' = -1 := e
          subst e
          simp only [ne_eq, not_true_eq_false, if_false, okb]
          exact yes_ok (.inl ⟨rfl, hs⟩)
        · replace e : g' = (t1 : Int) := e
          subst e
          replace A : Au n c (al rows) held b W h' t1 i1 := A
          have hne : ((t1 : Int)) ≠ -1 := by omega
          have hb : b[t1]? = some (gd b t1) := gd_get (by rw [S.len]; exact A.t0n)
          simp only [if_pos hne]
          rw [atR_nat hb, okb]
          by_cases hat : gd b t1 = (c : Int)
          · simp only [hat, ne_eq, not_true_eq_false, if_false, okb]
            rw [setR_nat (by rw [A.len]; exact A.t0n), okb]
            have := A.done S hat
            rw [hat] at this
            exact yes_ok (.inl ⟨rfl, this⟩)
          · obtain ⟨t2, i2, hi2, t2n, e2, hf, A2⟩ := A.next S M hat
            rw [if_pos hat, idxR_ok (k := t2) (by rw [gd_get (by rw [A.len]; exact t2n), e2]) (fun u hu eu => ?_)]
            · simp only [okb]
              rw [setR_nat (by rw [A.len]; exact A.t0n), okb]
              exact yes_ok (.inr ⟨t2, i2, rfl, by omega, A2⟩)
            · rw [gd_get (by rw [A.len]; omega)] at eu
              exact hf u hu (Option.some.inj eu)
      · rcases hs with hs | ⟨t1, i1, _, hi1, _⟩
        · exact hs
        · omega
  · -- the row
    obtain ⟨nums2, held⟩ := s
    replace M : Mt n n (al rows) held := M
    have hcov : ∀ w : Nat, w < n → ∃ t : Nat, t < n ∧ gd held t = (w : Int) ∧ held.findIdx (fun y => decide (y = (w : Int))) = t ∧ idxR held (w : Int) = .ok (t : Int) := fun w hw => by
      obtain ⟨t, t1, t2⟩ := M.cov w hw
      have hg : held[t]? = some (w : Int) := by rw [gd_get (by rw [M.len]; exact t1), t2]
      have first : ∀ j, j < t → held[j]? ≠ some (w : Int) := fun j hj e => by
        rw [gd_get (by rw [M.len]; omega)] at e
        have := M.inj j t (by omega) t1 (by rw [Option.some.inj e, t2]) (by rw [Option.some.inj e]; omega)
        omega
      refine ⟨t, t1, t2, ?_, idxR_ok hg first⟩
      have hl : t < held.length := by rw [M.len]; exact t1
      refine (List.findIdx_eq hl).mpr ⟨by rw [List.getElem?_eq_getElem hl] at hg; exact decide_eq_true (Option.some.inj hg), fun j hj => ?_⟩
      have := first j hj
      rw [List.getElem?_eq_getElem (by omega)] at this
      exact decide_eq_false fun e => this (congrArg some e)
    rw [comp_nats (f := fun w => ((held.findIdx (fun y => decide (y = (w : Int))) : Nat) : Int)) (fun w hw => by
      obtain ⟨t, _, _, h3, h4⟩ := hcov w hw
      show idxR held (w : Int) = _
      rw [h4, h3]), okb]
    refine yes_ok ?_
    show Rect n (rows ++ [(List.range n).map fun w : Nat => ((held.findIdx (fun y => decide (y = (w : Int))) : Nat) : Int)])
    refine ⟨fun row hrow => ?_, List.pairwise_append.mpr ⟨R.2, List.pairwise_singleton _ _, fun r hr s hs y hy e => ?_⟩⟩
    · rcases List.mem_append.mp hrow with m | m
      · exact R.1 row m
      · rw [List.mem_singleton.mp m]
        refine sub_perm ?_ (fun x hx => ?_) (by simp)
        · refine List.pairwise_map.mpr ?_
          refine List.Pairwise.imp_of_mem ?_ List.nodup_range
          intro w v mw mv ne e
          obtain ⟨t, _, h2, h3, _⟩ := hcov w (List.mem_range.mp mw)
          obtain ⟨u, _, k2, k3, _⟩ := hcov v (List.mem_range.mp mv)
          have : t = u := by omega
          subst this
          omega
        · obtain ⟨w, mw, rfl⟩ := List.mem_map.mp hx
          obtain ⟨t, h1, _, h3, _⟩ := hcov w (List.mem_range.mp mw)
          exact nats_mem.mpr ⟨by omega, by omega⟩
    · rw [List.mem_singleton.mp hs] at e
      obtain ⟨t, h1, h2, h3, _⟩ := hcov y hy
      have e2 : ((List.range n).map fun w : Nat => ((held.findIdx (fun z => decide (z = (w : Int))) : Nat) : Int))[y]? = some (t : Int) := by
        rw [List.getElem?_map, List.getElem?_range hy]
        exact congrArg (fun z : Nat => some ((z : Nat) : Int)) h3
      rw [e2] at e
      have ha := ((M.rng t h1).resolve_left (by omega)).2.2
      rw [h2] at ha
      have hng : ¬ ((t : Int) ∈ gone rows y) := by
        have : (!decide ((t : Int) ∈ gone rows y)) = true := ha
        simpa using this
      refine hng (List.mem_map.mpr ⟨r, hr, ?_⟩)
      unfold gd
      rw [List.getD_eq_getElem?_getD, e]; rfl
end K00

set_option Elab.async false
set_option linter.all false
set_option maxRecDepth 100000
namespace K00
open PySem L2 TM PL
/-! ### squares -/
structure Lat (n : Nat) (L : List (List Int)) : Prop where
  R : Rect n L
  len : L.length = n
  n1 : 1 ≤ n
  n8 : n ≤ 8
def rw (L : List (List Int)) (x : Nat) : List Int := L.getD x []
def col (L : List (List Int)) (y : Nat) : List Int := L.map fun row => gd row y
def m2 (L : List (List Int)) (x y : Nat) : Int := gd (rw L x) y
theorem srt_iff {n : Nat} {xs : List Int} : srt xs = nats n ↔ xs.Perm (nats n) := by
  constructor
  · intro h
    rw [← h]; exact (srt_perm xs).symm
  · intro h
    exact (srt_unique h.symm nats_asc).symm
section
variable {n : Nat} {L : List (List Int)}
theorem Lat.row (A : Lat n L) {x : Nat} (h : x < n) : L[x]? = some (rw L x) ∧ rw L x ∈ L ∧ (rw L x).Perm (nats n) := by
  have e : L[x]? = some (rw L x) := by
    unfold rw
    rw [List.getD_eq_getElem?_getD, List.getElem?_eq_getElem (by rw [A.len]; exact h)]
    rfl
  exact ⟨e, List.mem_of_getElem? e, A.R.1 _ (List.mem_of_getElem? e)⟩
theorem Lat.at2 (A : Lat n L) {x y : Nat} (h : x < n) (k : y < n) : (rw L x)[y]? = some (m2 L x y) := gd_get (by rw [perm_len (A.row h).2.2]; exact k)
theorem Lat.rng (A : Lat n L) {x y : Nat} (h : x < n) (k : y < n) : 0 ≤ m2 L x y ∧ m2 L x y < n := perm_rng (A.row h).2.2 (A.at2 h k)
theorem col_get (A : Lat n L) {x y : Nat} (h : x < n) : (col L y)[x]? = some (m2 L x y) := by
  unfold col
  rw [List.getElem?_map, (A.row h).1]
  rfl
theorem col_ne (A : Lat n L) {x u y : Nat} (hx : x < n) (hu : u < n) (hy : y < n) (e : m2 L x y = m2 L u y) : x = u := by
  have p := List.pairwise_iff_getElem.mp A.R.2
  have k : ∀ {a b : Nat}, a < n → b < n → a < b → m2 L a y ≠ m2 L b y := fun {a b} ha hb hab e => by
    have ha' : a < L.length := by rw [A.len]; exact ha
    have hb' : b < L.length := by rw [A.len]; exact hb
    have q := p a b ha' hb' hab y hy
    have ea : L[a] = rw L a := by
      have := (A.row ha).1
      rw [List.getElem?_eq_getElem ha'] at this
      exact Option.some.inj this
    have eb : L[b] = rw L b := by
      have := (A.row hb).1
      rw [List.getElem?_eq_getElem hb'] at this
      exact Option.some.inj this
    rw [ea, eb, A.at2 ha hy, A.at2 hb hy, e] at q
    exact q rfl
  rcases Nat.lt_trichotomy x u with z | z | z
  · exact (k hx hu z e).elim
  · exact z
  · exact (k hu hx z e.symm).elim
theorem row_ne (A : Lat n L) {x y v : Nat} (hx : x < n) (hy : y < n) (hv : v < n) (e : m2 L x y = m2 L x v) : y = v :=
  get_inj ((A.row hx).2.2.nodup_iff.mpr nats_nodup) (A.at2 hx hy) (by rw [e]; exact A.at2 hx hv)
theorem col_perm (A : Lat n L) {y : Nat} (hy : y < n) : (col L y).Perm (nats n) := by
  refine sub_perm ?_ (fun v hv => ?_) (by rw [nats_len]; unfold col; rw [List.length_map, A.len]; exact Nat.le_refl _)
  · refine List.pairwise_iff_getElem.mpr fun i j hi hj hij e => ?_
    have hi' : i < n := by unfold col at hi; rw [List.length_map, A.len] at hi; exact hi
    have hj' : j < n := by unfold col at hj; rw [List.length_map, A.len] at hj; exact hj
    have e1 := col_get A (y := y) hi'
    have e2 := col_get A (y := y) hj'
    rw [List.getElem?_eq_getElem hi] at e1
    rw [List.getElem?_eq_getElem hj] at e2
    have := col_ne A hi' hj' hy (by rw [← Option.some.inj e1, ← Option.some.inj e2]; exact e)
    omega
  · obtain ⟨i, e⟩ := List.mem_iff_getElem?.mp hv
    have hi : i < n := by
      have := (List.getElem?_eq_some_iff.mp e).1
      unfold col at this; rw [List.length_map, A.len] at this; exact this
    rw [col_get A hi] at e
    cases e
    exact nats_mem.mpr (A.rng hi hy)
end
/-! ### is it a merge -/
def good (rows : List (List Int)) : Bool := decide (1 ≤ rows.length ∧ rows.length ≤ 8) && ((rows.all fun row => decide (srt row = nats rows.length)) && (List.range rows.length).all fun y => decide (srt (col rows y) = nats rows.length))
theorem good_lat {rows : List (List Int)} (h : good rows = true) : Lat rows.length rows := by
  unfold good at h
  simp only [Bool.and_eq_true, decide_eq_true_eq, List.all_eq_true] at h
  obtain ⟨⟨h1, h2⟩, h3, h4⟩ := h
  have hp : ∀ row, row ∈ rows → row.Perm (nats rows.length) := fun row m => srt_iff.mp (h3 row m)
  refine ⟨⟨hp, ?_⟩, rfl, h1, h2⟩
  refine List.pairwise_iff_getElem.mpr fun i j hi hj hij y hy e => ?_
  have hc := srt_iff.mp (h4 y (List.mem_range.mpr hy))
  have nd := hc.nodup_iff.mpr nats_nodup
  have gi : (col rows y)[i]? = some (gd rows[i] y) := by
    unfold col; rw [List.getElem?_map, List.getElem?_eq_getElem hi]; rfl
  have gj : (col rows y)[j]? = some (gd rows[j] y) := by
    unfold col; rw [List.getElem?_map, List.getElem?_eq_getElem hj]; rfl
  have li : y < rows[i].length := by rw [perm_len (hp _ (List.getElem_mem hi))]; exact hy
  have lj : y < rows[j].length := by rw [perm_len (hp _ (List.getElem_mem hj))]; exact hy
  rw [gd_get li, gd_get lj] at e
  rw [← Option.some.inj e] at gj
  have := get_inj nd gi gj
  omega
theorem lat_good {n : Nat} {L : List (List Int)} (A : Lat n L) : good L = true := by
  unfold good
  simp only [Bool.and_eq_true, decide_eq_true_eq, List.all_eq_true]
  rw [A.len]
  exact ⟨⟨A.n1, A.n8⟩, fun row m => srt_iff.mpr (A.R.1 row m), fun y hy => srt_iff.mpr (col_perm A (List.mem_range.mp hy))⟩
theorem ren_ok {names : List Int} {n : Nat} (h : n < 2 ^ 24) : m_is_renaming (names, (n : Int), ()) = .ok (decide (srt names = nats n)) := by
  simp only [m_is_renaming, d_is_renaming, okb, rngC_nat h, items_t, eqb_t]
theorem ren1_ok {names : List Int} {n : Nat} (h : n < 2 ^ 24) : m_is_renaming_1 (names, (n : Int), ()) = .ok (decide (srt names = nats n)) := by
  simp only [m_is_renaming_1, d_is_renaming_1, okb, rngC_nat h, items_l, eqb_t]
abbrev BM : Exc := { name := Str.ofString "BadMerge", pay := Pay.no }
theorem col_ok {rows : List (List Int)} {k n : Nat} (hp : ∀ row, row ∈ rows → row.Perm (nats n)) (hk : k < n) : compR rows (fun _ => Res.ok true) (fun x => atR x (k : Int)) = .ok (col rows k) :=
  comp_ok fun row m => atR_nat (gd_get (by rw [perm_len (hp row m)]; exact hk))
theorem any_not {α : Type} {p : α → Bool} {l : List α} : (l.any fun x => !p x) = !l.all p := by
  induction l with
  | nil => rfl
  | cons x l ih => simp [ih]
theorem ff {α : Type} {a b : α} : (if false = true then a else b) = b := by simp
theorem tt {α : Type} {a b : α} : (if true = true then a else b) = a := by simp
theorem check_ok {rows : List (List Int)} (h : rows.length < 2 ^ 24) : m_check_table (rows, ()) = if good rows = true then .ok () else .exc BM := by
  simp only [m_check_table, d_check_table, okb, items_t, rng1_nat h, map_ok, map_exc]
  by_cases h1 : 1 ≤ rows.length ∧ rows.length ≤ 8
  · have q1 : decide ((rows.length : Int) < 1) = false := decide_eq_false (by omega)
    have q2 : decide ((8 : Int) < (rows.length : Int)) = false := decide_eq_false (by omega)
    rw [q1, ff, okb, q2, ff]
    have e1 := forM_exc (ex := BM) (p := fun row => !decide (srt row = nats rows.length)) (xs := rows) (g := fun x3 s4 => (((m_is_renaming (x3, (rows.length : Int), ())).bind fun b => Res.ok b).bind fun x => Res.ok (!x)).bind fun s => if s = true then Res.exc BM else Res.ok ()) (fun row m => by
      show ((((m_is_renaming (row, (rows.length : Int), ())).bind fun b => Res.ok b).bind fun x => Res.ok (!x)).bind fun s => if s = true then Res.exc BM else Res.ok ()) = _
      rw [ren_ok h, okb, okb, okb])
    rw [e1]
    by_cases h2 : (rows.all fun row => decide (srt row = nats rows.length)) = true
    · have hp : ∀ row, row ∈ rows → row.Perm (nats rows.length) := fun row m => srt_iff.mp (of_decide_eq_true (List.all_eq_true.mp h2 row m))
      rw [any_not, h2, Bool.not_true, ff, okb]
      have e2 := forM_exc (ex := BM) (p := fun y : Int => !decide (srt (col rows y.toNat) = nats rows.length)) (xs := nats rows.length) (g := fun x7 s8 => (((compR rows (fun x10 => Res.ok true) fun x10 => atR x10 x7).bind fun x => (m_is_renaming_1 (x, (rows.length : Int), ())).bind fun b => Res.ok b).bind fun x => Res.ok (!x)).bind fun s => if s = true then Res.exc BM else Res.ok ()) (fun y m => by
        obtain ⟨k, mk, rfl⟩ := List.mem_map.mp m
        have hk := List.mem_range.mp mk
        show ((((compR rows (fun x10 => Res.ok true) fun x10 => atR x10 (k : Int)).bind fun x => (m_is_renaming_1 (x, (rows.length : Int), ())).bind fun b => Res.ok b).bind fun x => Res.ok (!x)).bind fun s => if s = true then Res.exc BM else Res.ok ()) = _
        rw [col_ok hp hk, okb, ren1_ok h, okb, okb, okb, Int.toNat_natCast])
      have e3 : ∀ x7 : Int, ((compR rows (fun x10 => Res.ok true) fun x => atR x x7).bind fun x => Res.ok (x, (rows.length : Int), ())).bind (fun c => (m_is_renaming_1 c).bind fun b => Res.ok b) = (compR rows (fun x10 => Res.ok true) fun x10 => atR x10 x7).bind fun x => (m_is_renaming_1 (x, (rows.length : Int), ())).bind fun b => Res.ok b := fun x7 => by
        rw [bindA]
        simp only [okb]
      simp only [e3]
      rw [e2]
      have e : (nats rows.length).any (fun y : Int => !decide (srt (col rows y.toNat) = nats rows.length)) = !(List.range rows.length).all fun y => decide (srt (col rows y) = nats rows.length) := by
        rw [any_not, List.all_map]; rfl
      rw [e]
      unfold good
      rw [h2, decide_eq_true h1]
      cases (List.range rows.length).all fun y => decide (srt (col rows y) = nats rows.length)
      · simp only [Bool.not_false, Bool.and_false, if_true, if_false, Bool.false_eq_true, exc_bind]
      · simp only [Bool.not_true, Bool.and_true, Bool.and_self, if_true, if_false, Bool.false_eq_true, okb]
    · have h2' : (rows.all fun row => decide (srt row = nats rows.length)) = false := by simpa using h2
      rw [any_not, h2', Bool.not_false, tt, exc_bind]
      unfold good
      rw [h2', Bool.false_and, Bool.and_false, ff]
  · have hg : good rows = false := by
      unfold good
      rw [decide_eq_false h1, Bool.false_and]
    rw [hg, ff]
    by_cases q : (rows.length : Int) < 1
    · rw [decide_eq_true q, tt, okb, tt]
    · have q2 : decide ((8 : Int) < (rows.length : Int)) = true := decide_eq_true (by omega)
      rw [decide_eq_false q, ff, okb, q2, tt]
theorem is_merge_ok {rows : List (List Int)} (h : rows.length < 2 ^ 24) : m_is_merge (rows, ()) = .ok (good rows) := by
  simp only [m_is_merge, d_is_merge, okb, items_l, rngC_nat h, map_ok]
  by_cases h1 : 1 ≤ rows.length ∧ rows.length ≤ 8
  · rw [if_neg (show ¬ decide ((rows.length : Int) < 1) = true by simp; omega)]
    simp only [okb]
    rw [if_neg (show ¬ decide ((8 : Int) < (rows.length : Int)) = true by simp; omega)]
    rw [forR_find (z := false) (p := fun row => !decide (srt row = nats rows.length)) (fun row m => by
      rw [eqb_f]
      split <;> rfl)]
    by_cases h2 : (rows.all fun row => decide (srt row = nats rows.length)) = true
    · rw [any_not, h2]
      simp only [Bool.not_true, Bool.false_eq_true, if_false, okb]
      have hp : ∀ row, row ∈ rows → row.Perm (nats rows.length) := fun row m => srt_iff.mp (of_decide_eq_true (List.all_eq_true.mp h2 row m))
      rw [forR_find (z := false) (p := fun y : Int => !decide (srt (col rows y.toNat) = nats rows.length)) (fun y m => by
        obtain ⟨k, mk, rfl⟩ := List.mem_map.mp m
        have hk := List.mem_range.mp mk
        rw [col_ok hp hk]
        simp only [okb, Int.toNat_natCast, eqb_f]
        split <;> rfl)]
      have e : (nats rows.length).any (fun y : Int => !decide (srt (col rows y.toNat) = nats rows.length)) = !(List.range rows.length).all fun y => decide (srt (col rows y) = nats rows.length) := by
        rw [any_not, List.all_map]; rfl
      rw [e]
      unfold good
      rw [h2, decide_eq_true h1]
      cases (List.range rows.length).all fun y => decide (srt (col rows y) = nats rows.length) <;> rfl
    · have h2' : (rows.all fun row => decide (srt row = nats rows.length)) = false := by simpa using h2
      rw [any_not, h2']
      unfold good
      rw [h2']
      simp [Res.bind]
  · have hg : good rows = false := by
      unfold good
      rw [decide_eq_false h1]; rfl
    rw [hg]
    by_cases q : (rows.length : Int) < 1
    · rw [if_pos (show decide ((rows.length : Int) < 1) = true by simpa using q)]
      rfl
    · rw [if_neg (show ¬ decide ((rows.length : Int) < 1) = true by simpa using q)]
      simp only [okb]
      rw [if_pos (show decide ((8 : Int) < (rows.length : Int)) = true by simp; omega)]
/-! ### inverted -/
def inv (n : Nat) (names : List Int) : List Int := (List.range n).map fun t => ((pos t names : Nat) : Int)
theorem pos_of {names : List Int} {k t : Nat} (nd : names.Nodup) (h : names[k]? = some (t : Int)) : pos t names = k := by
  have hm : (t : Int) ∈ names := List.mem_of_getElem? h
  have hl : pos t names < names.length := List.findIdx_lt_length_of_exists ⟨_, hm, by simp⟩
  have hg := List.findIdx_getElem (p := fun y => decide (y = (t : Int))) (xs := names) (w := hl)
  refine get_inj nd ?_ h
  rw [List.getElem?_eq_getElem hl]
  exact congrArg some (of_decide_eq_true hg)
theorem rep0 {n : Nat} (h : n < 2 ^ 24) : repR [(0 : Int)] (n : Int) = .ok (List.replicate n [(0 : Int)]).flatten := by
  unfold repR
  rw [gate_ok]
  · rw [Int.toNat_natCast]
  · refine ⟨by omega, by omega, ?_⟩
    rw [Int.toNat_natCast, List.length_singleton, Nat.one_mul]
    exact Nat.le_of_lt (sizeLine_big h)
theorem rep0_len {n : Nat} : (List.replicate n [(0 : Int)]).flatten.length = n := by
  rw [List.length_flatten, List.map_replicate]
  simp
/-- the loop that fills the inverse -/
theorem inv_loop {names : List Int} {n : Nat} (hn : n < 2 ^ 24) (h : names.Perm (nats n)) : (forM (enumL names) (List.replicate n [(0 : Int)]).flatten fun x2 s3 => setR s3 x2.snd x2.fst) = .ok (inv n names) := by
  have nd := h.nodup_iff.mpr nats_nodup
  have hl := perm_len h
  obtain ⟨s, e, h1, h2⟩ := forM_yes (g := fun (x2 : Int × Int) (s3 : List Int) => setR s3 x2.snd x2.fst) (xs := enumL names) (s := (List.replicate n [(0 : Int)]).flatten) (fun k s => s.length = n ∧ ∀ j, j < k → ∀ t : Nat, names[j]? = some (t : Int) → s[t]? = some (j : Int)) (Q := fun s => s.length = n ∧ ∀ j, j < names.length → ∀ t : Nat, names[j]? = some (t : Int) → s[t]? = some (j : Int)) 0 ⟨rep0_len, fun j hj => absurd hj (Nat.not_lt_zero j)⟩ (fun k x s ek ⟨h1, h2⟩ => by
    rw [enumL_get] at ek
    cases hk : names[k]? with
    | none => rw [hk] at ek; cases ek
    | some v =>
      rw [hk] at ek
      cases ek
      have hv := perm_rng h hk
      rw [Nat.zero_add] at h2 ⊢
      show (setR s v (k : Int)).yes _
      rw [setR_int hv.1 (by omega)]
      refine yes_ok ⟨by rw [List.length_set]; exact h1, fun j hj t et => ?_⟩
      by_cases q : j = k
      · subst q
        rw [hk] at et
        cases et
        rw [Int.toNat_natCast, List.getElem?_set_self (by omega)]
      · have : v.toNat ≠ t := fun e => by
          have ev : v = (t : Int) := by omega
          rw [ev] at hk
          exact q (get_inj nd et hk)
        rw [List.getElem?_set_ne this]
        exact h2 j (by omega) t et) (fun s hs => by rw [enumL_len, Nat.zero_add] at hs; exact hs)
  rw [e]
  congr 1
  refine List.ext_getElem? fun t => ?_
  by_cases ht : t < n
  · obtain ⟨p1, p2⟩ := pos_ok h ht
    rw [h2 (pos t names) (by omega) t p2]
    unfold inv
    rw [List.getElem?_map, List.getElem?_range ht]
    rfl
  · rw [List.getElem?_eq_none (by omega), List.getElem?_eq_none (by unfold inv; simp; omega)]
theorem inverted_ok {names : List Int} {n : Nat} (hn : n < 2 ^ 24) (h : names.Perm (nats n)) : m_inverted (names, ()) = .ok (inv n names) := by
  simp only [m_inverted, d_inverted, okb, items_t, items_l, bind_id, bind_id']
  rw [perm_len h, rep0 hn, okb, inv_loop hn h]
theorem inverted1_ok {names : List Int} {n : Nat} (hn : n < 2 ^ 24) (h : names.Perm (nats n)) : m_inverted_1 (names, ()) = .ok (inv n names) := by
  simp only [m_inverted_1, d_inverted_1, okb, items_t, items_l, bind_id, bind_id']
  rw [perm_len h, rep0 hn, okb, inv_loop hn h]
theorem inv_get {names : List Int} {n t : Nat} (ht : t < n) : (inv n names)[t]? = some ((pos t names : Nat) : Int) := by
  unfold inv
  rw [List.getElem?_map, List.getElem?_range ht]; rfl
/-! ### the instance -/
def mk (L : List (List Int)) : R_Merge := ((((((), L), (L.length : Int)), L.map (inv L.length))), (List.range L.length).map fun y => inv L.length (col L y))
theorem init_ok {rows : List (List Int)} (h : rows.length < 2 ^ 24) : m_Merge_init ((), rows, ()) = if good rows = true then .ok (mk rows) else .exc BM := by
  simp only [m_Merge_init, d_Merge_init, okb, items_t, items_l, bind_id]
  rw [comp_ok (f := fun x : List Int => x) (fun x _ => rfl), okb, List.map_id', check_ok h]
  by_cases hg : good rows = true
  · have A := good_lat hg
    rw [if_pos hg, if_pos hg]
    simp only [okb]
    rw [comp_ok (f := inv rows.length) (fun row m => by
      rw [inverted_ok h (A.R.1 row m)]), okb, rngC_nat h, okb]
    rw [comp_nats (f := fun y => inv rows.length (col rows y)) (fun y hy => by
      rw [col_ok A.R.1 hy]
      simp only [okb]
      rw [inverted1_ok h (col_perm A hy)])]
    rfl
  · rw [if_neg hg, if_neg hg]; rfl
theorem refused_ok {rows : List (List Int)} (h : rows.length < 2 ^ 24) : m_refused (rows, ()) = .ok (some (!good rows)) := by
  simp only [m_refused, d_refused, okb, init_ok h, bind_id, map_ok]
  by_cases hg : good rows = true
  · rw [hg]; rfl
  · have hg' : good rows = false := by simpa using hg
    rw [hg']
    rfl
end K00

set_option Elab.async false
set_option linter.all false
set_option maxRecDepth 100000
namespace K00
open PySem L2 TM PL
/-! ### alike -/
theorem alike_ok {x : Int} : m_alike (x, x, ()) = .ok true := by
  simp only [m_alike, d_alike, okb, eqb_t, Bool.not_false, if_true, decide_true, bind_id, bind_id']
theorem alike2_ok {xs : List Int} (h : xs.length < 2 ^ 24) : m_alike_2 (xs, xs, ()) = .ok true := by
  simp only [m_alike_2, d_alike_2, okb, items_l, items_t, Bool.not_true, Bool.false_eq_true, if_false, eqb_f, decide_true, map_ok, rng1_nat h]
  rw [forR_go (fun x hx => ?_)]
  · simp only [okb, map_ok]
  · obtain ⟨k, mk, rfl⟩ := List.mem_map.mp hx
    have hk := List.mem_range.mp mk
    rw [atR_nat (List.getElem?_eq_getElem hk)]
    simp only [okb]
    rw [alike_ok]
    simp only [okb, Bool.not_true, Bool.false_eq_true, if_false]
theorem alike1_ok {L : List (List Int)} (h : L.length < 2 ^ 24) (hr : ∀ row, row ∈ L → row.length < 2 ^ 24) : m_alike_1 (L, L, ()) = .ok true := by
  simp only [m_alike_1, d_alike_1, okb, items_l, items_t, Bool.not_true, Bool.false_eq_true, if_false, eqb_f, decide_true, map_ok, rng1_nat h]
  rw [forR_go (fun x hx => ?_)]
  · simp only [okb, map_ok]
  · obtain ⟨k, mk, rfl⟩ := List.mem_map.mp hx
    have hk := List.mem_range.mp mk
    rw [atR_nat (List.getElem?_eq_getElem hk)]
    simp only [okb]
    rw [alike2_ok (hr _ (List.getElem_mem hk))]
    simp only [okb, Bool.not_true, Bool.false_eq_true, if_false]
theorem alike4_ok {a b c : Int} : m_alike_4 ((a, b, c), [a, b, c], ()) = .ok true := by
  have h3 : (([a, b, c] : List Int).length) < 2 ^ 24 := by show 3 < 2 ^ 24; decide
  simp only [m_alike_4, d_alike_4, okb, items_l, items_t, Bool.not_true, Bool.false_eq_true, if_false, eqb_f, decide_true, map_ok, rng1_nat h3]
  rw [forR_go (fun x hx => ?_)]
  · simp only [okb, map_ok]
  · obtain ⟨k, mk, rfl⟩ := List.mem_map.mp hx
    have hk := List.mem_range.mp mk
    rw [atR_nat (List.getElem?_eq_getElem hk)]
    simp only [okb]
    rw [alike_ok]
    simp only [okb, Bool.not_true, Bool.false_eq_true, if_false]
def un3 (t : Int × Int × Int) : List Int := [t.1, t.2.1, t.2.2]
theorem alike3_ok {T : List (Int × Int × Int)} (h : T.length < 2 ^ 24) : m_alike_3 (T, T.map un3, ()) = .ok true := by
  have h' : (T.map un3).length < 2 ^ 24 := by rw [List.length_map]; exact h
  simp only [m_alike_3, d_alike_3, okb, items_l, items_t, Bool.not_true, Bool.false_eq_true, if_false, eqb_f, map_ok, rng1_nat h']
  rw [List.length_map, decide_eq_true rfl]
  simp only [Bool.not_true, Bool.false_eq_true, if_false]
  rw [forR_go (fun x hx => ?_)]
  · simp only [okb, map_ok]
  · obtain ⟨k, mk, rfl⟩ := List.mem_map.mp hx
    have hk := List.mem_range.mp mk
    have hT : T[k]? = some T[k] := List.getElem?_eq_getElem hk
    rw [atR_nat hT, atR_nat (xs := T.map un3) (x := un3 T[k]) (by rw [List.getElem?_map, hT]; rfl)]
    simp only [okb]
    have : m_alike_4 (T[k], un3 T[k], ()) = .ok true := alike4_ok
    rw [this]
    simp only [okb, Bool.not_true, Bool.false_eq_true, if_false]
theorem bool_ok {b : Bool} : m_bool (b, b, ()) = .ok true := by
  cases b <;> rfl
theorem bool1_ok {b : Bool} : m_bool_1 (some b, b, ()) = .ok true := by
  simp only [m_bool_1, d_bool_1, okb, eqb_t]
  cases b <;> rfl
section
variable {n : Nat} {L : List (List Int)}
/-! ### triples -/
def trip (n : Nat) (L : List (List Int)) : List (Int × Int × Int) := (List.range n).flatMap fun x : Nat => (List.range n).map fun y : Nat => ((x : Int), (y : Int), m2 L x y)
theorem trip_len (k : Nat) : ((List.range k).flatMap fun x : Nat => (List.range n).map fun y : Nat => ((x : Int), (y : Int), m2 L x y)).length = k * n := by
  induction k with
  | zero => simp
  | succ k ih =>
    rw [List.range_succ, List.flatMap_append, List.length_append, ih, Nat.succ_mul]
    simp
theorem sq_lt (A : Lat n L) {k j : Nat} (hk : k ≤ n) (hj : j ≤ n) : k * n + j < 2 ^ 24 := by
  have : k * n ≤ 8 * 8 := Nat.mul_le_mul (by have := A.n8; omega) A.n8
  have := A.n8
  omega
theorem triples_ok (A : Lat n L) : m_triples (L, ()) = .ok ((trip n L).map un3) := by
  have hn : n < 2 ^ 24 := by have := A.n8; omega
  simp only [m_triples, d_triples, okb, items_l, A.len, rng1_nat hn, bind_id]
  obtain ⟨s, e, h⟩ := forM_nats (g := fun (x2 : Int) (s3 : List (List Int)) => forM (nats n) s3 fun x5 s6 => ((((atR L x2).bind fun x => atR x x5).bind fun x => Res.ok [x]).bind fun xs => Res.ok (x5 :: xs)).bind (fun xs => Res.ok (x2 :: xs)) |>.bind (fun b => (appR s6 b).bind fun ys => Res.ok (b, ys)) |>.bind fun v9 => Res.ok v9.snd) (n := n) (s := []) (fun k s => s = ((List.range k).flatMap fun x : Nat => (List.range n).map fun y : Nat => ((x : Int), (y : Int), m2 L x y)).map un3) rfl (fun k s hk hs => by
    obtain ⟨s', e', h'⟩ := forM_nats (g := fun (x5 : Int) (s6 : List (List Int)) => ((((atR L (k : Int)).bind fun x => atR x x5).bind fun x => Res.ok [x]).bind fun xs => Res.ok (x5 :: xs)).bind (fun xs => Res.ok ((k : Int) :: xs)) |>.bind (fun b => (appR s6 b).bind fun ys => Res.ok (b, ys)) |>.bind fun v9 => Res.ok v9.snd) (n := n) (s := s) (fun j s6 => s6 = s ++ ((List.range j).map fun y : Nat => ((k : Int), (y : Int), m2 L k y)).map un3) (by simp) (fun j s6 hj h6 => by
      show (((((((atR L (k : Int)).bind fun x => atR x (j : Int)).bind fun x => Res.ok [x]).bind fun xs => Res.ok ((j : Int) :: xs)).bind (fun xs => Res.ok ((k : Int) :: xs))).bind (fun b => (appR s6 b).bind fun ys => Res.ok (b, ys))).bind fun v9 => Res.ok v9.snd).yes _
      rw [atR_nat (A.row hk).1, okb, atR_nat (A.at2 hk hj)]
      simp only [okb]
      have hl : s6.length = k * n + j := by
        rw [h6, hs, List.length_append, List.length_map, List.length_map, List.length_map, List.length_range, trip_len]
      rw [appR_ok (by rw [hl]; exact sq_lt A (by omega) (by omega))]
      simp only [okb]
      refine yes_ok ?_
      rw [h6, List.range_succ, List.map_append, List.map_append, List.append_assoc]
      rfl)
    refine ⟨s', e', ?_⟩
    rw [h', hs, List.range_succ, List.flatMap_append, List.map_append]
    simp)
  simp only [bindA, okb] at e ⊢
  rw [e, h]
  rfl
theorem comp2_ok {α β γ : Type} {w : α → Res (List γ)} {g : α → γ → Res β} {ys : α → List γ} {f : α → List β} : ∀ {xs : List α} {k : Nat}, (∀ x, x ∈ xs → w x = .ok (ys x)) → (∀ x, x ∈ xs → mapR (ys x) (g x) = .ok (f x)) → k + ((xs.map fun x => (ys x).length).sum) ≤ sizeLine → comp2R k xs w g = .ok (xs.flatMap f)
  | [], _, _, _, _ => rfl
  | x :: xs, k, h1, h2, h3 => by
    unfold comp2R
    rw [List.map_cons, List.sum_cons] at h3
    rw [h1 x List.mem_cons_self, calm_ok, okb, gate_ok (by omega), okb, h2 x List.mem_cons_self, okb, comp2_ok (fun y hy => h1 y (List.mem_cons_of_mem _ hy)) (fun y hy => h2 y (List.mem_cons_of_mem _ hy)) (by omega), okb]
    rfl
theorem mapR_ok {α β : Type} {g : α → Res β} {f : α → β} {xs : List α} (h : ∀ x, x ∈ xs → g x = .ok (f x)) : mapR xs g = .ok (xs.map f) := by
  rw [← comp_map]; exact comp_ok h
theorem flatMap_cong {α β : Type} {f g : α → List β} : ∀ {l : List α}, (∀ x, x ∈ l → f x = g x) → l.flatMap f = l.flatMap g
  | [], _ => rfl
  | x :: l, h => by
    rw [List.flatMap_cons, List.flatMap_cons, h x List.mem_cons_self, flatMap_cong fun y hy => h y (List.mem_cons_of_mem _ hy)]
theorem enum_range {α : Type} {xs : List α} {d : α} : enumL xs = (List.range xs.length).map fun k => (((k : Nat) : Int), xs.getD k d) := by
  refine List.ext_getElem? fun i => ?_
  rw [enumL_get, List.getElem?_map]
  by_cases h : i < xs.length
  · rw [List.getElem?_range h, List.getElem?_eq_getElem h]
    show some ((i : Int), xs[i]) = some ((i : Int), xs.getD i d)
    rw [List.getD_eq_getElem?_getD, List.getElem?_eq_getElem h]; rfl
  · rw [List.getElem?_eq_none (by omega), List.getElem?_eq_none (by simp; omega)]; rfl
theorem mtriples_ok (A : Lat n L) : m_Merge_triples (mk L, ()) = .ok (trip n L) := by
  simp only [m_Merge_triples, d_Merge_triples, okb, items_l, bind_id, bind_id']
  show comp2R 0 (enumL L) (fun x1 => Res.ok (enumL x1.snd)) (fun x1 y2 => Res.ok (x1.fst, y2.fst, y2.snd)) = _
  rw [comp2_ok (w := fun x1 : Int × List Int => Res.ok (enumL x1.snd)) (g := fun (x1 : Int × List Int) (y2 : Int × Int) => Res.ok (x1.fst, y2.fst, y2.snd)) (ys := fun x1 => enumL x1.snd) (f := fun x1 => (enumL x1.snd).map fun y2 => (x1.fst, y2.fst, y2.snd)) (fun _ _ => rfl) (fun x1 _ => mapR_ok fun _ _ => rfl)]
  · rw [enum_range (d := []), A.len, List.flatMap_map]
    unfold trip
    congr 1
    refine flatMap_cong fun x hx => ?_
    have hx' := List.mem_range.mp hx
    show (enumL (rw L x)).map _ = _
    rw [enum_range (d := -1), perm_len (A.row hx').2.2, List.map_map]
    rfl
  · have e : ((enumL L).map fun x => (enumL x.snd).length).sum ≤ ((enumL L).map fun _ => n).sum := sum_le fun x hx => by
      rw [enum_range (d := []), A.len] at hx
      obtain ⟨k, hk, rfl⟩ := List.mem_map.mp hx
      show (enumL (rw L k)).length ≤ n
      rw [enumL_len, perm_len (A.row (List.mem_range.mp hk)).2.2]
      exact Nat.le_refl _
    rw [sum_const, enumL_len, A.len] at e
    have := sq_lt A (k := n) (j := 0) (Nat.le_refl _) (Nat.zero_le _)
    have : n * n < sizeLine := sizeLine_big (by omega)
    omega
/-! ### tell -/
def tv (L : List (List Int)) (p a b : Nat) : Int := if p = 2 then m2 L a b else if p = 1 then ((pos b (rw L a) : Nat) : Int) else ((pos b (col L a) : Nat) : Int)
theorem idx_pos {names : List Int} {n t : Nat} (h : names.Perm (nats n)) (ht : t < n) : idxR names (t : Int) = .ok ((pos t names : Nat) : Int) := by
  obtain ⟨p1, p2⟩ := pos_ok h ht
  refine idxR_ok p2 fun j hj e => ?_
  have := get_inj (h.nodup_iff.mpr nats_nodup) e p2
  omega
theorem tell_ok (A : Lat n L) {p a b : Nat} (hp : p < 3) (ha : a < n) (hb : b < n) : m_tell (L, (p : Int), (a : Int), (b : Int), ()) = .ok (tv L p a b) := by
  simp only [m_tell, d_tell, okb, eqb_tt, map_ok, bind_id, bind_id']
  unfold tv
  by_cases h2 : p = 2
  · subst h2
    rw [if_pos (show ((2 : Nat) : Int) = 2 from rfl), if_pos rfl, atR_nat (A.row ha).1, okb, atR_nat (A.at2 ha hb)]
    rfl
  · rw [if_neg (by omega), if_neg h2]
    by_cases h1 : p = 1
    · subst h1
      rw [if_pos (show ((1 : Nat) : Int) = 1 from rfl), if_pos rfl, atR_nat (A.row ha).1, okb, idx_pos (A.row ha).2.2 hb]
      rfl
    · rw [if_neg (by omega), if_neg h1, col_ok A.R.1 ha, okb, idx_pos (col_perm A ha) hb]
theorem mtell_ok (A : Lat n L) {p a b : Nat} (hp : p < 3) (ha : a < n) (hb : b < n) : m_Merge_tell (mk L, (p : Int), (a : Int), (b : Int), ()) = .ok (tv L p a b) := by
  have ht : m_Merge_table (mk L, (p : Int), ()) = .ok (if p = 2 then L else if p = 1 then L.map (inv L.length) else (List.range L.length).map fun y => inv L.length (col L y)) := by
    simp only [m_Merge_table, d_Merge_table, okb, bind_id, bind_id']
    rw [atR_nat (x := if p = 2 then L else if p = 1 then L.map (inv L.length) else (List.range L.length).map fun y => inv L.length (col L y))]
    have : p = 0 ∨ p = 1 ∨ p = 2 := by omega
    rcases this with h | h | h <;> subst h <;> rfl
  simp only [m_Merge_tell, d_Merge_tell, okb, ht, bind_id, bind_id']
  unfold tv
  by_cases h2 : p = 2
  · rw [if_pos h2, if_pos h2, atR_nat (A.row ha).1, okb, atR_nat (A.at2 ha hb)]
  · rw [if_neg h2, if_neg h2]
    by_cases h1 : p = 1
    · rw [if_pos h1, if_pos h1, atR_nat (x := inv L.length (rw L a)) (by rw [List.getElem?_map, (A.row ha).1]; rfl), okb, atR_nat (inv_get (by rw [A.len]; exact hb))]
    · rw [if_neg h1, if_neg h1, atR_nat (x := inv L.length (col L a)) (by rw [List.getElem?_map, A.len, List.getElem?_range ha]; rfl), okb, atR_nat (inv_get (by rw [A.len]; exact hb))]
theorem mholds_ok (A : Lat n L) {x y : Nat} {z : Int} (hx : x < n) (hy : y < n) : m_Merge_holds (mk L, (x : Int), (y : Int), z, ()) = .ok (decide (m2 L x y = z)) := by
  simp only [m_Merge_holds, d_Merge_holds, okb, bind_id, bind_id', eqb_t]
  show ((atR L (x : Int)).bind fun x => atR x (y : Int)).bind _ = _
  rw [atR_nat (A.row hx).1, okb, atR_nat (A.at2 hx hy), okb]
end
end K00

set_option Elab.async false
set_option linter.all false
set_option maxRecDepth 100000
namespace K00
open PySem L2 TM PL
section
variable {n : Nat} {L : List (List Int)}
/-- the thing at the port p of the triple that x and y tell -/
def tr (L : List (List Int)) (x y p : Nat) : Int := if p = 0 then (x : Int) else if p = 1 then (y : Int) else m2 L x y
theorem tr_rng (A : Lat n L) {x y p : Nat} (hx : x < n) (hy : y < n) : 0 ≤ tr L x y p ∧ tr L x y p < n := by
  unfold tr
  split
  · omega
  · split
    · omega
    · exact A.rng hx hy
theorem tr_get {x y p : Nat} (h : p < 3) : atR [(x : Int), (y : Int), m2 L x y] (p : Int) = .ok (tr L x y p) := by
  have : p = 0 ∨ p = 1 ∨ p = 2 := by omega
  rcases this with h | h | h <;> subst h <;> rfl
theorem pair_unique (A : Lat n L) {s o x y u v : Nat} (hs : s < 3) (ho : o < 3) (hso : s ≠ o) (hx : x < n) (hy : y < n) (hu : u < n) (hv : v < n) (e1 : tr L x y s = tr L u v s) (e2 : tr L x y o = tr L u v o) : x = u ∧ y = v := by
  have k01 : ∀ {p q : Nat}, p = 0 → q = 1 → tr L x y p = tr L u v p → tr L x y q = tr L u v q → x = u ∧ y = v := fun {p q} hp hq a b => by
    subst hp; subst hq
    have a' : (x : Int) = (u : Int) := a
    have b' : (y : Int) = (v : Int) := b
    omega
  have k02 : ∀ {p q : Nat}, p = 0 → q = 2 → tr L x y p = tr L u v p → tr L x y q = tr L u v q → x = u ∧ y = v := fun {p q} hp hq a b => by
    subst hp; subst hq
    have a' : (x : Int) = (u : Int) := a
    have b' : m2 L x y = m2 L u v := b
    have : x = u := by omega
    subst this
    exact ⟨rfl, row_ne A hx hy hv b'⟩
  have k12 : ∀ {p q : Nat}, p = 1 → q = 2 → tr L x y p = tr L u v p → tr L x y q = tr L u v q → x = u ∧ y = v := fun {p q} hp hq a b => by
    subst hp; subst hq
    have a' : (y : Int) = (v : Int) := a
    have b' : m2 L x y = m2 L u v := b
    have : y = v := by omega
    subst this
    exact ⟨col_ne A hx hu hy b', rfl⟩
  have : (s = 0 ∧ o = 1) ∨ (s = 1 ∧ o = 0) ∨ (s = 0 ∧ o = 2) ∨ (s = 2 ∧ o = 0) ∨ (s = 1 ∧ o = 2) ∨ (s = 2 ∧ o = 1) := by omega
  rcases this with ⟨a, b⟩ | ⟨a, b⟩ | ⟨a, b⟩ | ⟨a, b⟩ | ⟨a, b⟩ | ⟨a, b⟩
  · exact k01 a b e1 e2
  · exact k01 b a e2 e1
  · exact k02 a b e1 e2
  · exact k02 b a e2 e1
  · exact k12 a b e1 e2
  · exact k12 b a e2 e1
theorem pair_ex (A : Lat n L) {s o u t : Nat} (hs : s < 3) (ho : o < 3) (hso : s ≠ o) (hu : u < n) (ht : t < n) : ∃ x y, x < n ∧ y < n ∧ tr L x y s = (u : Int) ∧ tr L x y o = (t : Int) := by
  have k02 : ∀ {a b : Nat}, a < n → b < n → ∃ y, y < n ∧ m2 L a y = (b : Int) := fun {a b} ha hb => by
    obtain ⟨p1, p2⟩ := pos_ok (A.row ha).2.2 hb
    refine ⟨_, p1, ?_⟩
    have := A.at2 ha p1
    rw [p2] at this
    exact (Option.some.inj this).symm
  have k12 : ∀ {a b : Nat}, a < n → b < n → ∃ x, x < n ∧ m2 L x a = (b : Int) := fun {a b} ha hb => by
    obtain ⟨p1, p2⟩ := pos_ok (col_perm A ha) hb
    refine ⟨_, p1, ?_⟩
    have := col_get A (y := a) p1
    rw [p2] at this
    exact (Option.some.inj this).symm
  have : (s = 0 ∧ o = 1) ∨ (s = 1 ∧ o = 0) ∨ (s = 0 ∧ o = 2) ∨ (s = 2 ∧ o = 0) ∨ (s = 1 ∧ o = 2) ∨ (s = 2 ∧ o = 1) := by omega
  rcases this with ⟨a, b⟩ | ⟨a, b⟩ | ⟨a, b⟩ | ⟨a, b⟩ | ⟨a, b⟩ | ⟨a, b⟩ <;> subst a <;> subst b
  · exact ⟨u, t, hu, ht, rfl, rfl⟩
  · exact ⟨t, u, ht, hu, rfl, rfl⟩
  · obtain ⟨y, h1, h2⟩ := k02 hu ht
    exact ⟨u, y, hu, h1, rfl, h2⟩
  · obtain ⟨y, h1, h2⟩ := k02 ht hu
    exact ⟨t, y, ht, h1, h2, rfl⟩
  · obtain ⟨x, h1, h2⟩ := k12 hu ht
    exact ⟨x, u, h1, hu, rfl, h2⟩
  · obtain ⟨x, h1, h2⟩ := k12 ht hu
    exact ⟨x, t, h1, ht, h2, rfl⟩
/-- D is the renaming from the port s to the port g where the port o has t -/
def Ren (n : Nat) (L : List (List Int)) (s g o t : Nat) (D : List Int) : Prop := D.length = n ∧ ∀ x y, x < n → y < n → tr L x y o = (t : Int) → D[(tr L x y s).toNat]? = some (tr L x y g)
theorem renaming_ok (A : Lat n L) {s g o t : Nat} (hs : s < 3) (hg : g < 3) (ho : o < 3) (hso : s ≠ o) (ht : t < n) (hsum : s + g + o = 3) : (m_renaming (L, (s : Int), (g : Int), (t : Int), ())).yes fun D => Ren n L s g o t D := by
  have hn : n < 2 ^ 24 := by have := A.n8; omega
  simp only [m_renaming, d_renaming, okb, items_l, A.len, rng1_nat hn, bind_id, eqb_tt]
  have e0 : compR L (fun _ => Res.ok true) (fun _ => Res.ok (0 : Int)) = .ok (L.map fun _ => (0 : Int)) := comp_ok (f := fun _ => (0 : Int)) fun _ _ => rfl
  rw [e0, okb]
  have ho' : (3 : Int) - (s : Int) - (g : Int) = (o : Int) := by omega
  rw [ho']
  refine yes_mono (forM_nats (fun k (D : List Int) => D.length = n ∧ ∀ x y, x < k → y < n → tr L x y o = (t : Int) → D[(tr L x y s).toNat]? = some (tr L x y g)) ⟨(List.length_map (fun _ : List Int => (0 : Int)) (as := L)).trans A.len, fun x y h => absurd h (Nat.not_lt_zero x)⟩ fun k D hk ⟨hl, hD⟩ => ?_) fun D h => h
  refine yes_mono (forM_nats (fun j (D : List Int) => D.length = n ∧ ∀ x y, (x < k ∧ y < n) ∨ (x = k ∧ y < j) → tr L x y o = (t : Int) → D[(tr L x y s).toNat]? = some (tr L x y g)) ⟨hl, fun x y h => by
    rcases h with ⟨h1, h2⟩ | ⟨_, h2⟩
    · exact hD x y h1 h2
    · exact absurd h2 (Nat.not_lt_zero y)⟩ fun j D hj ⟨hl, hD⟩ => ?_) fun D ⟨h1, h2⟩ => ⟨h1, fun x y hx hy => h2 x y (by omega)⟩
  rw [atR_nat (A.row hk).1, okb, atR_nat (A.at2 hk hj)]
  simp only [okb]
  rw [tr_get ho, okb, tr_get hg, tr_get hs]
  simp only [okb, eqb_tt]
  have rs := tr_rng (p := s) A hk hj
  by_cases q : tr L k j o = (t : Int)
  · rw [if_pos q, setR_int rs.1 (by omega)]
    refine yes_ok ⟨by rw [List.length_set]; exact hl, fun x y h e => ?_⟩
    have hxy : x < n ∧ y < n := by omega
    have rx := tr_rng (p := s) A hxy.1 hxy.2
    by_cases z : tr L k j s = tr L x y s
    · obtain ⟨e1, e2⟩ := pair_unique A hs ho hso hk hj hxy.1 hxy.2 z (q.trans e.symm)
      subst e1; subst e2
      rw [List.getElem?_set_self (by omega)]
    · rw [List.getElem?_set_ne (by omega)]
      refine hD x y ?_ e
      rcases h with h | ⟨h1, h2⟩
      · exact .inl h
      · refine .inr ⟨h1, ?_⟩
        by_cases w : y = j
        · subst h1; subst w; exact (z rfl).elim
        · omega
  · rw [if_neg q]
    refine yes_ok ⟨hl, fun x y h e => hD x y ?_ e⟩
    rcases h with h | ⟨h1, h2⟩
    · exact .inl h
    · refine .inr ⟨h1, ?_⟩
      by_cases w : y = j
      · subst h1; subst w; exact (q e).elim
      · omega
theorem Ren.at_ (A : Lat n L) {s g o t : Nat} {D : List Int} (R : Ren n L s g o t D) (hs : s < 3) (ho : o < 3) (hso : s ≠ o) (ht : t < n) {u : Nat} (hu : u < n) : ∃ x y, x < n ∧ y < n ∧ tr L x y s = (u : Int) ∧ tr L x y o = (t : Int) ∧ D[u]? = some (tr L x y g) := by
  obtain ⟨x, y, hx, hy, e1, e2⟩ := pair_ex A hs ho hso hu ht
  have := R.2 x y hx hy e2
  rw [e1, Int.toNat_natCast] at this
  exact ⟨x, y, hx, hy, e1, e2, this⟩
theorem Ren.perm (A : Lat n L) {s g o t : Nat} {D : List Int} (R : Ren n L s g o t D) (hs : s < 3) (hg : g < 3) (ho : o < 3) (hso : s ≠ o) (hgo : g ≠ o) (ht : t < n) : D.Perm (nats n) := by
  refine sub_perm ?_ (fun z hz => ?_) (by rw [nats_len, R.1]; exact Nat.le_refl _)
  · refine List.pairwise_iff_getElem.mpr fun i j hi hj hij e => ?_
    obtain ⟨x, y, hx, hy, a1, a2, a3⟩ := R.at_ A hs ho hso ht (u := i) (by rw [← R.1]; exact hi)
    obtain ⟨u, v, hu, hv, b1, b2, b3⟩ := R.at_ A hs ho hso ht (u := j) (by rw [← R.1]; exact hj)
    rw [List.getElem?_eq_getElem hi] at a3
    rw [List.getElem?_eq_getElem hj] at b3
    obtain ⟨e1, e2⟩ := pair_unique A hg ho hgo hx hy hu hv (by rw [← Option.some.inj a3, ← Option.some.inj b3]; exact e) (a2.trans b2.symm)
    subst e1; subst e2
    omega
  · obtain ⟨i, e⟩ := List.mem_iff_getElem?.mp hz
    have hi : i < n := by rw [← R.1]; exact (List.getElem?_eq_some_iff.mp e).1
    obtain ⟨x, y, hx, hy, a1, a2, a3⟩ := R.at_ A hs ho hso ht hi
    rw [e] at a3
    cases a3
    exact nats_mem.mpr (tr_rng A hx hy)
theorem Ren.inv (A : Lat n L) {s g o t : Nat} {D B : List Int} (R : Ren n L s g o t D) (Q : Ren n L g s o t B) (hs : s < 3) (hg : g < 3) (ho : o < 3) (hso : s ≠ o) (hgo : g ≠ o) (ht : t < n) : inv n D = B := by
  have P := R.perm A hs hg ho hso hgo ht
  refine List.ext_getElem? fun v => ?_
  by_cases hv : v < n
  · obtain ⟨x, y, hx, hy, a1, a2, a3⟩ := Q.at_ A hg ho hgo ht hv
    rw [inv_get hv, a3]
    have hD := R.2 x y hx hy a2
    rw [a1] at hD
    rw [pos_of (P.nodup_iff.mpr nats_nodup) hD]
    have := tr_rng (p := s) A hx hy
    rw [Int.toNat_of_nonneg this.1]
  · rw [List.getElem?_eq_none (by unfold K00.inv; simp; omega), List.getElem?_eq_none (by rw [Q.1]; omega)]
theorem tv2 {x y : Nat} : tv L 2 x y = m2 L x y := rfl
theorem tv1 (A : Lat n L) {x y : Nat} (hx : x < n) (hy : y < n) : tv L 1 x (m2 L x y).toNat = (y : Int) := by
  have r := A.rng hx hy
  have e := A.at2 hx hy
  show ((pos (m2 L x y).toNat (rw L x) : Nat) : Int) = _
  rw [pos_of (k := y) ((A.row hx).2.2.nodup_iff.mpr nats_nodup) (by rw [e, Int.toNat_of_nonneg r.1])]
theorem tv0 (A : Lat n L) {x y : Nat} (hx : x < n) (hy : y < n) : tv L 0 y (m2 L x y).toNat = (x : Int) := by
  have r := A.rng hx hy
  have e := col_get A (y := y) hx
  show ((pos (m2 L x y).toNat (col L y) : Nat) : Int) = _
  rw [pos_of (k := x) ((col_perm A hy).nodup_iff.mpr nats_nodup) (by rw [e, Int.toNat_of_nonneg r.1])]
theorem tell_pair (A : Lat n L) {s g o x y u t : Nat} (hs : s < 3) (hg : g < 3) (ho : o < 3) (hso : s ≠ o) (hsum : s + g + o = 3) (hsg : s ≠ g) (hx : x < n) (hy : y < n) (e1 : tr L x y s = (u : Int)) (e2 : tr L x y o = (t : Int)) : (if s < o then tv L g u t else tv L g t u) = tr L x y g := by
  have hu : u = (tr L x y s).toNat := by omega
  have ht : t = (tr L x y o).toNat := by omega
  have : (s = 0 ∧ o = 1 ∧ g = 2) ∨ (s = 1 ∧ o = 0 ∧ g = 2) ∨ (s = 0 ∧ o = 2 ∧ g = 1) ∨ (s = 2 ∧ o = 0 ∧ g = 1) ∨ (s = 1 ∧ o = 2 ∧ g = 0) ∨ (s = 2 ∧ o = 1 ∧ g = 0) := by omega
  rcases this with ⟨a, b, c⟩ | ⟨a, b, c⟩ | ⟨a, b, c⟩ | ⟨a, b, c⟩ | ⟨a, b, c⟩ | ⟨a, b, c⟩ <;> subst a <;> subst b <;> subst c
  · have hu' : u = x := by rw [hu]; show ((x : Int)).toNat = x; omega
    have ht' : t = y := by rw [ht]; show ((y : Int)).toNat = y; omega
    rw [if_pos (by omega), hu', ht']; rfl
  · have hu' : u = y := by rw [hu]; show ((y : Int)).toNat = y; omega
    have ht' : t = x := by rw [ht]; show ((x : Int)).toNat = x; omega
    rw [if_neg (by omega), hu', ht']; rfl
  · have hu' : u = x := by rw [hu]; show ((x : Int)).toNat = x; omega
    rw [if_pos (by omega), hu', ht]
    exact tv1 A hx hy
  · have ht' : t = x := by rw [ht]; show ((x : Int)).toNat = x; omega
    rw [if_neg (by omega), ht', hu]
    exact tv1 A hx hy
  · have hu' : u = y := by rw [hu]; show ((y : Int)).toNat = y; omega
    rw [if_pos (by omega), hu', ht]
    exact tv0 A hx hy
  · have ht' : t = y := by rw [ht]; show ((y : Int)).toNat = y; omega
    rw [if_neg (by omega), ht', hu]
    exact tv0 A hx hy
theorem mren_ok (A : Lat n L) {s g o t : Nat} (hs : s < 3) (hg : g < 3) (ho : o < 3) (hso : s ≠ o) (hsum : s + g + o = 3) (hsg : s ≠ g) (ht : t < n) {D : List Int} (R : Ren n L s g o t D) : m_Merge_renaming (mk L, (s : Int), (g : Int), (t : Int), ()) = .ok D := by
  have hn : n < 2 ^ 24 := by have := A.n8; omega
  have hD : D = (List.range n).map fun v => if s < o then tv L g v t else tv L g t v := by
    refine List.ext_getElem? fun v => ?_
    by_cases hv : v < n
    · obtain ⟨x, y, hx, hy, a1, a2, a3⟩ := R.at_ A hs ho hso ht hv
      rw [a3, List.getElem?_map, List.getElem?_range hv]
      show _ = some (if s < o then tv L g v t else tv L g t v)
      rw [tell_pair A hs hg ho hso hsum hsg hx hy a1 a2]
    · rw [List.getElem?_eq_none (by rw [R.1]; omega), List.getElem?_eq_none (by simp; omega)]
  have hlen : (mk L).fst.fst.snd = (n : Int) := by show ((L.length : Nat) : Int) = n; rw [A.len]
  simp only [m_Merge_renaming, d_Merge_renaming, okb, map_ok, bind_id, bind_id', items_l, hlen, rngC_nat hn]
  by_cases q : s < o
  · rw [if_pos (decide_eq_true (by omega)), comp_nats (f := fun v => tv L g v t) (fun v hv => mtell_ok A hg hv ht), hD, map_ok]
    congr 1
    exact List.map_congr_left fun v _ => by rw [if_pos q]
  · rw [if_neg (show ¬ decide _ = true by rw [decide_eq_false (by omega)]; decide), comp_nats (f := fun v => tv L g t v) (fun v hv => mtell_ok A hg ht hv), hD]
    congr 1
    exact List.map_congr_left fun v _ => by rw [if_neg q]
theorem invfits_ok {D B : List Int} (hn : n < 2 ^ 24) (P : D.Perm (nats n)) (e : inv n D = B) : m_inverted_fits (D, D, B, ()) = .ok true := by
  have hB : B.length < 2 ^ 24 := by rw [← e]; unfold inv; simpa using hn
  simp only [m_inverted_fits, d_inverted_fits, okb, items_t, items_l, bind_id, bind_id', eqb_t, decide_true]
  have h1 : m_inverted_1 (D, ()) = .ok B := by rw [inverted1_ok hn P, e]
  have h2 : m_inverted (D, ()) = .ok B := by rw [inverted_ok hn P, e]
  first
    | (rw [h1]; simp only [okb, alike2_ok hB, if_true])
    | (rw [h2]; simp only [okb, alike2_ok hB, if_true])
theorem invfits1_ok {D B : List Int} (hn : n < 2 ^ 24) (P : D.Perm (nats n)) (e : inv n D = B) : m_inverted_fits_1 (D, D, B, ()) = .ok true := by
  have hB : B.length < 2 ^ 24 := by rw [← e]; unfold inv; simpa using hn
  simp only [m_inverted_fits_1, d_inverted_fits_1, okb, items_t, items_l, bind_id, bind_id', eqb_t, decide_true]
  have h1 : m_inverted_1 (D, ()) = .ok B := by rw [inverted1_ok hn P, e]
  have h2 : m_inverted (D, ()) = .ok B := by rw [inverted_ok hn P, e]
  first
    | (rw [h1]; simp only [okb, alike2_ok hB, if_true])
    | (rw [h2]; simp only [okb, alike2_ok hB, if_true])
end
end K00

set_option Elab.async false
set_option linter.all false
set_option maxRecDepth 100000
namespace K00
open PySem L2 TM PL
section
variable {n : Nat} {L : List (List Int)}
theorem renfit_ok (A : Lat n L) : m_renamings_fit (mk L, L, ()) = .ok true := by
  have hn : n < 2 ^ 24 := by have := A.n8; omega
  have h9 : rng1 9 = .ok (nats 9) := rng1_nat (n := 9) (by decide)
  simp only [m_renamings_fit, d_renamings_fit, okb, items_l, A.len, rng1_nat hn, h9, bind_id, bind_id', map_ok]
  rw [forR_go (fun x hx => ?_)]
  · simp only [okb]
  · obtain ⟨k, mk', rfl⟩ := List.mem_map.mp hx
    have hk := List.mem_range.mp mk'
    have e1 : divR (k : Int) 3 = .ok ((k / 3 : Nat) : Int) := by
      rw [divR_ok (by decide) (by decide)]; congr 1
    have e2 : modR (k : Int) 3 = .ok ((k % 3 : Nat) : Int) := by
      rw [modR_ok (by decide)]; congr 1
    simp only [e1, e2, okb]
    rw [forR_go (fun y hy => ?_)]
    · simp only [okb]
    · obtain ⟨t, mt, rfl⟩ := List.mem_map.mp hy
      have ht := List.mem_range.mp mt
      simp only [eqb_ft]
      by_cases q : ((k / 3 : Nat) : Int) ≠ ((k % 3 : Nat) : Int)
      · rw [if_pos q]
        have hs : k / 3 < 3 := by omega
        have hg : k % 3 < 3 := by omega
        have hsg : k / 3 ≠ k % 3 := by omega
        obtain ⟨o, ho, hsum⟩ : ∃ o, o < 3 ∧ k / 3 + k % 3 + o = 3 := ⟨3 - k / 3 - k % 3, by omega, by omega⟩
        obtain ⟨D, eD, RD⟩ := renaming_ok A hs hg ho (by omega) ht hsum
        obtain ⟨B, eB, RB⟩ := renaming_ok A hg hs ho (by omega) ht (by omega)
        rw [eD, okb, eB, okb, mren_ok A hs hg ho (by omega) hsum hsg ht RD, okb]
        have hl : D.length < 2 ^ 24 := by rw [RD.1]; exact hn
        simp only [okb, alike2_ok hl, Bool.not_true, Bool.false_eq_true, if_false, invfits_ok hn (RD.perm A hs hg ho (by omega) (by omega) ht) (RD.inv A RB hs hg ho (by omega) (by omega) ht)]
      · rw [if_neg q]
        simp only [okb]
theorem fits_ok (A : Lat n L) : m_merge_fits (mk L, L, ()) = .ok true := by
  have hn : n < 2 ^ 24 := by have := A.n8; omega
  have h3 : rng1 3 = .ok (nats 3) := rng1_nat (n := 3) (by decide)
  have e1 : (mk L).fst.fst.snd = (n : Int) := by show ((L.length : Nat) : Int) = n; rw [A.len]
  have e2 : (mk L).fst.fst.fst.snd = L := rfl
  have hT : (trip n L).length < 2 ^ 24 := by
    unfold trip
    rw [trip_len]
    have := sq_lt A (k := n) (j := 0) (Nat.le_refl _) (Nat.zero_le _)
    omega
  simp only [m_merge_fits, d_merge_fits, okb, items_l, A.len, rng1_nat hn, h3, bind_id, bind_id', map_ok, e1, e2, Bool.not_true, Bool.false_eq_true, if_false]
  rw [alike_ok]
  simp only [okb, Bool.not_true, Bool.false_eq_true, if_false]
  rw [alike1_ok (by rw [A.len]; exact hn) (fun row m => by rw [perm_len (A.R.1 row m)]; exact hn)]
  simp only [okb, Bool.not_true, Bool.false_eq_true, if_false]
  rw [mtriples_ok A]
  simp only [okb]
  rw [triples_ok A]
  simp only [okb]
  rw [alike3_ok hT]
  simp only [okb, Bool.not_true, Bool.false_eq_true, if_false]
  rw [forR_go (fun x hx => ?_)]
  · simp only [okb, renfit_ok A]
  · obtain ⟨a, ma, rfl⟩ := List.mem_map.mp hx
    have ha := List.mem_range.mp ma
    rw [forR_go (fun y hy => ?_)]
    · simp only [okb]
    · obtain ⟨b, mb, rfl⟩ := List.mem_map.mp hy
      have hb := List.mem_range.mp mb
      rw [forR_go (fun z hz => ?_)]
      · simp only [okb]
        rw [forR_go (fun z hz => ?_)]
        · simp only [okb]
        · obtain ⟨c, mc, rfl⟩ := List.mem_map.mp hz
          rw [mholds_ok A ha hb, okb, atR_nat (A.row ha).1, okb, atR_nat (A.at2 ha hb)]
          simp only [okb, eqb_t, bool_ok, Bool.not_true, Bool.false_eq_true, if_false]
      · obtain ⟨p, mp, rfl⟩ := List.mem_map.mp hz
        have hp := List.mem_range.mp mp
        rw [mtell_ok A hp ha hb, okb, tell_ok A hp ha hb]
        simp only [okb, alike_ok, Bool.not_true, Bool.false_eq_true, if_false]
end
/-! ### what the law draws -/
theorem latin_ok {nums : List Int} {n : Nat} (h1 : 1 ≤ n) (h8 : n ≤ 8) : (m_latin (nums, (n : Int), ())).yes fun r => Lat n r.2 := by
  have hn : n < 2 ^ 24 := by omega
  simp only [m_latin, d_latin, okb, rng1_nat hn]
  refine yes_bind (P := fun s : List Int × List (List Int) => Rect n s.2 ∧ s.2.length = n) (forM_nats (fun k (s : List Int × List (List Int)) => Rect n s.2 ∧ s.2.length = k) ⟨⟨fun row m => absurd m List.not_mem_nil, .nil⟩, rfl⟩ fun k s hk ⟨R, hl⟩ => ?_) fun s ⟨R, hl⟩ => yes_ok ⟨R, hl, h1, h8⟩
  obtain ⟨r, er, hr⟩ := row_ok (nums := s.1) h8 R (by rw [hl]; exact hk)
  rw [er, okb, appR_ok (by rw [hl]; omega), okb, okb]
  exact yes_ok ⟨hr, by rw [List.length_append, hl]; rfl⟩
theorem erase_perm {α : Type} : ∀ {xs : List α} {t : Nat} {x : α}, xs[t]? = some x → (x :: xs.eraseIdx t).Perm xs
  | y :: xs, 0, x, h => by
    cases h
    exact List.Perm.refl _
  | y :: xs, t + 1, x, h => by
    have := erase_perm (xs := xs) (t := t) (x := x) (by simpa using h)
    exact (List.Perm.swap y x _).trans (List.Perm.cons y this)
theorem shuffled_ok {nums : List Int} {n : Nat} (h8 : n ≤ 8) : (m_shuffled (nums, (n : Int), ())).yes fun r => r.2.Perm (nats n) := by
  have hn : n < 2 ^ 24 := by omega
  simp only [m_shuffled, d_shuffled, okb, rngC_nat hn, rng1_nat hn, items_l]
  refine yes_bind (P := fun s : List Int × List Int × List Int => s.2.2.Perm (nats n)) (yes_mono (forM_nats (fun k (s : List Int × List Int × List Int) => (s.2.2 ++ s.2.1).Perm (nats n) ∧ s.2.2.length = k) ⟨List.Perm.refl _, rfl⟩ fun k s hk ⟨P, hl⟩ => ?_) fun s ⟨P, hl⟩ => ?_) fun s P => yes_ok P
  · have hll : s.2.1.length = n - k := by
      have := P.length_eq
      rw [List.length_append, hl, nats_len] at this
      omega
    refine yes_bind (P := fun s : ((List Int × Int) × List Int × Int) × List Int => (s.2 ++ s.1.2.1).Perm (nats n) ∧ s.2.length = k + 1) ?_ fun r hr => yes_ok hr
    refine yes_bind (P := fun r : (List Int × Int) × List Int × Int => (s.2.2 ++ r.2.2 :: r.2.1).Perm (nats n)) (yes_bind (take_ok (by omega)) fun r ⟨t, ht, et⟩ => ?_) fun r hr => ?_
    · obtain ⟨x, hx⟩ : ∃ x, s.2.1[t]? = some x := ⟨_, List.getElem?_eq_getElem ht⟩
      rw [et, popR_nat hx, okb]
      refine yes_ok (List.Perm.trans (List.Perm.append_left _ ?_) P)
      show (x :: s.2.1.eraseIdx t).Perm s.2.1
      exact erase_perm hx
    · rw [appR_ok (by omega), okb]
      refine yes_ok ⟨?_, by rw [List.length_append, hl]; rfl⟩
      show (s.2.2 ++ [r.2.2] ++ r.2.1).Perm (nats n)
      rw [List.append_assoc]
      exact hr
  · have hll : s.2.1.length = 0 := by
      have := P.length_eq
      rw [List.length_append, hl, nats_len] at this
      omega
    rw [List.eq_nil_of_length_eq_zero hll, List.append_nil] at P
    exact P
theorem numbers_ok {ns : List Int} (h : ns.length ≤ 63) : (m_numbers (ns, 300, ())).yes fun _ => True := by
  have h300 : rng1 300 = .ok (nats 300) := rng1_nat (n := 300) (by decide)
  have h60 : rng1 60 = .ok (nats 60) := rng1_nat (n := 60) (by decide)
  have hp : powR 10 18 = .ok (10 ^ 18) := by
    unfold powR
    rw [gate_ok ⟨by decide, by decide, by decide⟩]
    rfl
  simp only [m_numbers, d_numbers, okb, items_l, h300, h60, hp, bind_id, bind_id', decide_eq_true_eq]
  refine yes_bind (P := fun s : List Int × Int => s.1.length = 300) (forM_nats (fun k (s : List Int × Int) => s.1.length = k) rfl fun k s hk hl => ?_) fun s5 h5 => ?_
  · have hc : ((if 0 < (ns.length : Int) then (modR (k : Int) (ns.length : Int)).bind fun y => atR ns y else Res.ok 0)).yes fun _ => True := by
      by_cases q : 0 < (ns.length : Int)
      · rw [if_pos q, modR_ok q, okb]
        have h1 := Int.emod_nonneg (k : Int) (show (ns.length : Int) ≠ 0 by omega)
        have h2 := Int.emod_lt_of_pos (k : Int) q
        exact yes_eq (atR_int h1 (List.getElem?_eq_getElem (by omega))) trivial
      · rw [if_neg q]
        exact yes_ok trivial
    refine yes_bind hc fun c _ => ?_
    rw [mulR_okR (by decide) (by decide), mulR_okL (by decide) (by decide)]
    simp only [okb]
    rw [modR_ok (by decide), okb, divR_ok (by decide) (by decide), okb, appR_ok (by omega)]
    simp only [okb]
    exact yes_ok (by show (s.1 ++ [_]).length = k + 1; rw [List.length_append, hl]; rfl)
  · refine yes_bind (P := fun s : List Int => s.length ≤ 60 * 63) (yes_mono (forM_yes (xs := ns) (fun k (s : List Int) => s.length ≤ 60 * k) 0 (Nat.le_refl 0) (fun k x s ex hs => ?_) fun s hs => hs) fun s hs => Nat.le_trans hs (Nat.mul_le_mul_left _ (by omega))) fun s16 h16 => ?_
    · have hk : k < 63 := by
        have := (List.getElem?_eq_some_iff.mp ex).1
        omega
      rw [Nat.zero_add] at hs ⊢
      refine yes_bind (P := fun r : List Int × Int => r.1.length ≤ 60 * (k + 1)) ?_ fun r hr => yes_ok hr
      by_cases q : (10 : Int) ^ 18 ≤ absI x
      · rw [if_pos q]
        refine yes_bind (P := fun r : List Int × Int => r.1.length ≤ 60 * (k + 1)) (yes_mono (forM_nats (fun j (r : List Int × Int) => r.1.length ≤ 60 * k + j) hs fun j r hj hr => ?_) fun r hr => by omega) fun r hr => yes_ok hr
        refine yes_bind (P := fun r : List Int × Int => r.1.length ≤ 60 * k + (j + 1)) ?_ fun r hr => yes_ok hr
        by_cases q2 : 0 < r.2
        · rw [if_pos q2, modR_ok (by decide), okb, appR_ok (by omega), okb, okb, divR_ok (by decide) (by decide), okb]
          exact yes_ok (by show (r.1 ++ [_]).length ≤ _; rw [List.length_append]; show r.1.length + 1 ≤ _; omega)
        · rw [if_neg q2]
          exact yes_ok (by show r.1.length ≤ _; omega)
      · rw [if_neg q]
        exact yes_ok (by show s.length ≤ _; omega)
    · rw [rngC_nat (n := s16.length) (by omega)]
      simp only [okb]
      rw [comp_nats (f := fun k => s16.getD (s16.length - 1 - k) 0) (fun k hk => by
        rw [show (s16.length : Int) - 1 - (k : Int) = ((s16.length - 1 - k : Nat) : Int) by omega]
        refine atR_nat ?_
        rw [List.getD_eq_getElem?_getD, List.getElem?_eq_getElem (by omega)]; rfl), okb]
      unfold catR
      rw [gate_ok]
      · exact yes_ok trivial
      · rw [h5, List.length_map, List.length_range]
        exact Nat.le_of_lt (sizeLine_big (by omega))
end K00

set_option Elab.async false
set_option linter.all false
set_option maxRecDepth 100000
namespace K00
open PySem L2 TM PL
theorem cut_len {α : Type} {xs : List α} {l h : Option Int} : (cutT xs l h).length ≤ xs.length := by
  unfold cutT
  rw [List.length_take, List.length_drop]
  omega
theorem cut_mem {α : Type} {xs : List α} {l h : Option Int} {x : α} (m : x ∈ cutT xs l h) : x ∈ xs := List.mem_of_mem_drop (List.mem_of_mem_take m)
theorem catR_ok {α : Type} {xs ys : List α} (h : xs.length + ys.length < 2 ^ 24) : catR xs ys = .ok (xs ++ ys) := gate_ok (Nat.le_of_lt (sizeLine_big h))
theorem swap_map {f : List Int → List Int} {b c : Int} {rows : List (List Int)} (h : ∀ x, x ∈ rows → ((atR x b).bind fun v7 => (atR x c).bind fun v => (setR x b v).bind fun v10 => (setR v10 c v7).bind fun v13 => Res.ok (v13, ())) = .ok (f x, ())) : m_swap (rows, b, c, ()) = .ok (rows.map f) ∧ m_swap_1 (rows, b, c, ()) = .ok (rows.map f) := by
  constructor
  · simp only [m_swap, d_swap, okb]
    rw [forB_map (f := f) h, okb]
  · simp only [m_swap_1, d_swap_1, okb]
    rw [forB_map (f := f) h, okb]
def sw (b c : Nat) (x : List Int) : List Int := (x.set b (gd x c)).set c (gd x b)
theorem swap_ok {b c : Nat} {rows : List (List Int)} (h : ∀ x, x ∈ rows → b < x.length ∧ c < x.length) : m_swap (rows, (b : Int), (c : Int), ()) = .ok (rows.map (sw b c)) ∧ m_swap_1 (rows, (b : Int), (c : Int), ()) = .ok (rows.map (sw b c)) :=
  swap_map fun x hx => by
    obtain ⟨h1, h2⟩ := h x hx
    rw [atR_nat (gd_get h1), okb, atR_nat (gd_get h2), okb, setR_nat h1, okb, setR_nat (by rw [List.length_set]; exact h2), okb]
    rfl
theorem bent_ok {n : Nat} {L : List (List Int)} (A : Lat n L) {nums : List Int} : (m_bent (nums, L, ())).yes fun r => r.2.length ≤ 20 := by
  have hn : n < 2 ^ 24 := by have := A.n8; omega
  have h1 := A.n1
  have h8 := A.n8
  have eL : compR L (fun _ => Res.ok true) (fun x => Res.ok x) = .ok L := by
    rw [comp_ok (f := fun x : List Int => x) fun x _ => rfl, List.map_id']
  simp only [m_bent, d_bent, okb, items_l, A.len, bind_id, bind_id', rngC_nat hn]
  obtain ⟨v2, e2, w, hw, ew⟩ := take_ok (nums := nums) (n := 16) (by decide)
  rw [show ((16 : Nat) : Int) = 16 from rfl] at e2
  rw [e2, okb]
  obtain ⟨v3, e3, a, ha, ea⟩ := take_ok (nums := v2.1) (n := n) (by omega)
  rw [e3, okb]
  obtain ⟨v4, e4, b, hb, eb⟩ := take_ok (nums := v3.1) (n := n) (by omega)
  rw [e4, okb]
  obtain ⟨v5, e5, c, hc, ec⟩ := take_ok (nums := v4.1) (n := n) (by omega)
  rw [e5, okb, eL, okb, ea, borR_nat (A.row ha).1, okb, eb, borR_nat (A.row hb).1, okb, ec]
  have hw : v2.2 = 0 ∨ v2.2 = 1 ∨ v2.2 = 2 ∨ v2.2 = 3 ∨ v2.2 = 4 ∨ v2.2 = 5 ∨ v2.2 = 6 ∨ v2.2 = 7 ∨ v2.2 = 8 ∨ v2.2 = 9 ∨ v2.2 = 10 ∨ v2.2 = 11 ∨ v2.2 = 12 ∨ v2.2 = 13 ∨ v2.2 = 14 ∨ v2.2 = 15 := by omega
  rcases hw with h | h | h | h | h | h | h | h | h | h | h | h | h | h | h | h <;> simp only [h, eqb_tt, Int.reduceEq, if_false, if_true, okb]
  all_goals have fin : ∀ s : List (List Int), s.length ≤ 20 → (Res.ok (v5.fst, s) : Res B_bent).yes fun r => r.2.length ≤ 20 := fun s hs => yes_ok hs
  all_goals have ra := (A.row ha).1
  all_goals have rb := (A.row hb).1
  all_goals have la : (rw L a).length = n := perm_len (A.row ha).2.2
  all_goals have lb : (rw L b).length = n := perm_len (A.row hb).2.2
  all_goals have lm : ∀ x, x ∈ L → x.length = n := fun x hx => perm_len (A.R.1 x hx)
  · -- 0
    obtain ⟨v, e, t, ht, et⟩ := take_ok (nums := v5.1) (n := 4) (by decide)
    rw [show ((4 : Nat) : Int) = 4 from rfl] at e
    rw [e, okb, et, atR_nat (List.getElem?_eq_getElem (by exact ht)), okb, okb, lendR_nat ra, setR_nat (by omega), okb, okb]
    exact yes_ok (by show (L.set a _).length ≤ 20; rw [List.length_set, A.len]; omega)
  · rw [popR_nat ra, okb, okb, okb]
    exact fin _ (Nat.le_trans (List.length_eraseIdx_le _ _) (by rw [A.len]; omega))
  · obtain ⟨x, hx⟩ : ∃ x, (rw L a)[c]? = some x := ⟨_, List.getElem?_eq_getElem (by omega)⟩
    rw [lendR_nat ra, popR_nat hx, okb, okb, okb]
    exact fin _ (by rw [List.length_set, A.len]; omega)
  · rw [lendR_nat ra]
    unfold insR
    rw [gate_ok ⟨sizeLine_big (by omega), by omega, by rw [Int.toNat_natCast]; omega⟩, okb, okb, okb]
    exact fin _ (by rw [List.length_set, A.len]; omega)
  · rw [ra]
    simp only [okb]
    rw [appR_ok (by rw [A.len]; omega), okb, okb, okb]
    exact fin _ (by rw [List.length_append, A.len]; show n + 1 ≤ 20; omega)
  · rw [rb]
    simp only [okb]
    unfold outR
    rw [ixN_nat (by rw [A.len]; exact ha)]
    simp only [if_true, ra, okb]
    exact fin _ (by rw [List.length_set, A.len]; omega)
  · rw [lendR_nat ra, (swap_ok (b := b) (c := c) (rows := [rw L a]) (fun x hx => by rw [List.mem_singleton.mp hx, la]; exact ⟨hb, hc⟩)).2]
    simp only [okb, List.map_cons, List.map_nil]
    exact fin _ (by rw [List.length_set, A.len]; omega)
  · rw [ra, rb]
    simp only [okb]
    rw [atR_nat (A.at2 ha hc), okb, atR_nat (A.at2 hb hc), okb, lendR_nat ra, setR_nat (by omega), okb]
    have : ∃ r : List Int, (L.set a ((rw L a).set c (m2 L b c)))[b]? = some r ∧ r.length = n := by
      by_cases q : a = b
      · subst q
        exact ⟨_, List.getElem?_set_self (by rw [A.len]; exact ha), by rw [List.length_set]; exact la⟩
      · exact ⟨_, by rw [List.getElem?_set_ne q]; exact rb, lb⟩
    obtain ⟨r, er, lr⟩ := this
    rw [lendR_nat er, setR_nat (by omega), okb, okb]
    exact fin _ (by rw [List.length_set, List.length_set, A.len]; omega)
  · rw [ra]
    simp only []
    rw [comp_ok (f := fun _ : List Int => rw L a) (fun _ _ => rfl), okb]
    exact fin _ (by rw [List.length_map, A.len]; omega)
  · rw [comp_ok (f := fun x : List Int => L.map fun _ => gd x c) (fun x hx => comp_ok (f := fun _ : List Int => gd x c) fun _ _ => atR_nat (gd_get (by rw [lm x hx]; exact hc))), okb]
    exact fin _ (by rw [List.length_map, A.len]; omega)
  · rw [comp_ok (f := fun x : List Int => x.map (· + 1)) (fun x hx => comp_ok (f := fun y : Int => y + 1) fun _ _ => rfl), okb]
    exact fin _ (by rw [List.length_map, A.len]; omega)
  · rw [comp_ok (f := fun x : List Int => x.map fun y => if y = (n : Int) - 1 then -1 else y) (fun x hx => comp_ok (f := fun y : Int => if y = (n : Int) - 1 then -1 else y) fun y _ => by split <;> rfl), okb]
    exact fin _ (by rw [List.length_map, A.len]; omega)
  · have c1 : (cutT L none (some (a : Int))).length ≤ n := Nat.le_trans cut_len (Nat.le_of_eq A.len)
    have c2 : (cutT L (some ((a : Int) + 1)) none).length ≤ n := Nat.le_trans cut_len (Nat.le_of_eq A.len)
    rw [catR_ok (by omega), okb, comp_ok (f := fun x : List Int => cutT x none (some (c : Int)) ++ cutT x (some ((c : Int) + 1)) none) (fun x hx => catR_ok (by
      have hx' : x ∈ L := by
        rcases List.mem_append.mp hx with m | m
        · exact cut_mem m
        · exact cut_mem m
      have := lm x hx'
      have d1 : (cutT x none (some (c : Int))).length ≤ x.length := cut_len
      have d2 : (cutT x (some ((c : Int) + 1)) none).length ≤ x.length := cut_len
      omega)), okb]
    exact fin _ (by rw [List.length_map, List.length_append]; omega)
  · rw [rb]
    simp only [okb]
    unfold outR
    rw [ixN_nat (by rw [A.len]; exact ha)]
    simp only [if_true, ra, okb]
    rw [setR_nat (by rw [List.length_set, A.len]; exact hb), okb]
    exact fin _ (by rw [List.length_set, List.length_set, A.len]; omega)
  · rw [(swap_ok (b := b) (c := c) (rows := L) (fun x hx => by rw [lm x hx]; exact ⟨hb, hc⟩)).1, okb]
    exact fin _ (by rw [List.length_map, A.len]; omega)
  · rw [comp_nats (f := fun y => col L y) (fun y hy => col_ok A.R.1 hy), okb]
    exact fin _ (by rw [List.length_map, List.length_range]; omega)
end K00

set_option Elab.async false
set_option linter.all false
set_option maxRecDepth 100000
namespace K00
open PySem L2 TM PL
theorem lcE2 {β γ δ : Type} {me : Int → β → Res γ} {y : Int → β → γ → δ} {nx : Int → β → γ → β} {s : β} {b0 b1 : γ} (h0 : me 0 s = .ok b0) (h1 : me 1 (nx 0 s b0) = .ok b1) : lcE [0, 1] s me y nx = .ok ([y 0 s b0, y 1 (nx 0 s b0) b1], nx 1 (nx 0 s b0) b1) := by
  unfold lcE
  rw [h0, calm_ok, okb]
  unfold lcE
  rw [h1, calm_ok, okb]
  unfold lcE
  rw [okb, okb]
theorem draw_latin {nums : List Int} : ∃ (c : Int × B_take × Int) (b : B_latin) (n : Nat), ((((m_take (nums, 8, ())).bind fun d => Res.ok ((1 : Int), d, 1 + d.snd)).bind fun c => (m_latin (c.snd.fst.fst, c.snd.snd, ())).bind fun b => Res.ok (c, b)) = .ok (c, b)) ∧ Lat n b.2 := by
  obtain ⟨d, e, t, ht, et⟩ := take_ok (nums := nums) (n := 8) (by decide)
  rw [show ((8 : Nat) : Int) = 8 from rfl] at e
  rw [e, okb, okb]
  obtain ⟨b, eb, A⟩ := latin_ok (nums := d.1) (n := 1 + t) (by omega) (by omega)
  refine ⟨(1, d, 1 + d.2), b, 1 + t, ?_, A⟩
  show ((m_latin (d.1, 1 + d.2, ())).bind fun b => Res.ok ((1, d, 1 + d.2), b)) = _
  rw [et, show (1 : Int) + (t : Int) = ((1 + t : Nat) : Int) by omega, eb, okb]
theorem law_true (ns : List Int) (h : ns.length ≤ 63) : m_law (ns, ()) = .ok true := by
  suffices q : (m_law (ns, ())).yes fun b => b = true by
    obtain ⟨b, e, hb⟩ := q
    rw [e, hb]
  have h2 : rngC 0 2 = .ok [0, 1] := rngC_nat (n := 2) (by decide)
  have h3 : rng1 3 = .ok (nats 3) := rng1_nat (n := 3) (by decide)
  have h9 : rngC 0 9 = .ok (nats 9) := rngC_nat (n := 9) (by decide)
  have eid : ∀ xs : List (List Int), compR xs (fun _ => Res.ok true) (fun x => Res.ok x) = .ok xs := fun xs => by
    rw [comp_ok (f := fun x : List Int => x) fun x _ => rfl, List.map_id']
  have eid2 : ∀ xs : List (List (List Int)), compR xs (fun _ => Res.ok true) (fun x => Res.ok x) = .ok xs := fun xs => by
    rw [comp_ok (f := fun x : List (List Int) => x) fun x _ => rfl, List.map_id']
  simp only [m_law, d_law, okb, items_l, h2, h3, h9, bind_id, bind_id', map_ok, eid, eid2]
  obtain ⟨nums, e0, _⟩ := numbers_ok h
  rw [e0, okb]
  obtain ⟨c0, b0, n0, d0, A0⟩ := draw_latin (nums := nums)
  obtain ⟨c1, b1, n1, d1, A1⟩ := draw_latin (nums := b0.1)
  rw [lcE2 (b0 := (c0, b0)) (b1 := (c1, b1)) d0 d1, okb]
  obtain ⟨g0, T0⟩ := b0
  obtain ⟨g1, T1⟩ := b1
  replace A0 : Lat n0 T0 := A0
  replace A1 : Lat n1 T1 := A1
  have a0 : atR [T0, T1] 0 = .ok T0 := atR_nat (k := 0) rfl
  have a1 : atR [T0, T1] 1 = .ok T1 := atR_nat (k := 1) rfl
  have lt0 : T0.length < 2 ^ 24 := by rw [A0.len]; have := A0.n8; omega
  have lt1 : T1.length < 2 ^ 24 := by rw [A1.len]; have := A1.n8; omega
  have i0 : m_Merge_init ((), T0, ()) = .ok (mk T0) := by rw [init_ok lt0, if_pos (lat_good A0)]
  have i1 : m_Merge_init ((), T1, ()) = .ok (mk T1) := by rw [init_ok lt1, if_pos (lat_good A1)]
  dsimp only
  rw [a0, okb, okb, i0, okb, a1, okb, okb, i1, okb]
  simp only [eqb_ft, ne_eq, not_true_eq_false, if_false]
  have chg : ∀ {n : Nat} {T : List (List Int)}, Lat n T → ((borR T 0).bind fun jx => ((atR jx.snd 0).bind fun x => Res.ok (x + 1)).bind fun b => (setR jx.snd 0 b).bind fun v27 => ((appR (T.set jx.fst v27) [0]).bind fun ys => Res.ok ([(0 : Int)], ys)).bind fun v29 => Res.ok (v29.snd, ())) = .ok (T.set 0 ((rw T 0).set 0 (m2 T 0 0 + 1)) ++ [[0]], ()) := fun {n T} A => by
    have h1 := A.n1
    have h8 := A.n8
    have e1 : borR T 0 = .ok (0, rw T 0) := borR_nat (k := 0) (A.row (show 0 < n by omega)).1
    have e2 : atR (rw T 0) 0 = .ok (m2 T 0 0) := atR_nat (k := 0) (A.at2 (show 0 < n by omega) (show 0 < n by omega))
    have e3 : setR (rw T 0) 0 (m2 T 0 0 + 1) = .ok ((rw T 0).set 0 (m2 T 0 0 + 1)) := setR_nat (k := 0) (by rw [perm_len (A.row (show 0 < n by omega)).2.2]; omega)
    rw [e1, okb]
    dsimp only
    rw [e2, okb, okb, e3, okb, appR_ok (by rw [List.length_set, A.len]; omega), okb, okb]
  rw [forB_map (f := fun T => T.set 0 ((rw T 0).set 0 (m2 T 0 0 + 1)) ++ [[0]]) (fun T hT => by
    rcases List.mem_cons.mp hT with rfl | hT
    · exact chg A0
    · rw [List.mem_singleton.mp hT]
      exact chg A1), okb]
  rw [okb, okb, fits_ok A0, okb, Bool.not_true, okb]
  simp only [Bool.false_eq_true, if_false]
  rw [okb, okb, fits_ok A1, okb, Bool.not_true, okb]
  simp only [Bool.false_eq_true, if_false]
  have tri : ∀ {n : Nat} {T : List (List Int)}, Lat n T → m_Merge_triples (mk T, ()) = .ok (trip n T) ∧ m_triples (T, ()) = .ok ((trip n T).map un3) ∧ m_alike_3 (trip n T, (trip n T).map un3, ()) = .ok true ∧ m_alike_1 (T, T, ()) = .ok true := fun {n T} A => by
    have := A.n8
    refine ⟨mtriples_ok A, triples_ok A, alike3_ok ?_, alike1_ok (by rw [A.len]; omega) fun row m => by rw [perm_len (A.R.1 row m)]; omega⟩
    unfold trip
    rw [trip_len]
    have := sq_lt A (k := n) (j := 0) (Nat.le_refl _) (Nat.zero_le _)
    omega
  refine yes_bind (P := fun r : Done Bool (List Int) => ∃ s, r = .go s) (forR_yes (fun _ _ => True) 0 trivial (fun k x s _ _ => ?_) fun s _ => ⟨s, rfl⟩) fun r ⟨s, hr⟩ => ?_
  · obtain ⟨v, ev, hv⟩ := bent_ok A0 (nums := s)
    have hv24 : v.2.length < 2 ^ 24 := by omega
    rw [okb, ev, okb, is_merge_ok hv24, okb, refused_ok hv24, okb, okb, bool1_ok, okb, Bool.not_true, okb]
    simp only [Bool.false_eq_true, if_false]
    by_cases hg : good v.2 = true
    · have A := good_lat hg
      obtain ⟨t1, t2, t3, t4⟩ := tri A
      rw [if_pos hg, init_ok hv24, if_pos hg, okb, t1, okb, t2, okb, okb, okb, t3, okb, Bool.not_true, okb]
      simp only [Bool.false_eq_true, if_false]
      rw [show (mk v.2).fst.fst.fst.snd = v.2 from rfl, t4, okb, Bool.not_true, okb]
      simp only [Bool.false_eq_true, if_false]
      rw [okb]
      exact yes_ok trivial
    · rw [if_neg hg, okb]
      exact yes_ok trivial
  · subst hr
    dsimp only
    obtain ⟨v, ev, t, ht, et⟩ := take_ok (nums := s) (n := 9) (by decide)
    rw [show ((9 : Nat) : Int) = 9 from rfl] at ev
    rw [ev, okb, et]
    rw [comp_ok (f := fun x : Int => (nats 9).map fun y => (x + y + (t : Int)) % 9) (fun x _ => comp_ok (f := fun y : Int => (x + y + (t : Int)) % 9) fun y _ => modR_ok (by decide)), okb]
    have hl9 : ((nats 9).map fun x : Int => (nats 9).map fun y => (x + y + (t : Int)) % 9).length = 9 := by
      rw [List.length_map, nats_len]
    have hg9 : good ((nats 9).map fun x : Int => (nats 9).map fun y => (x + y + (t : Int)) % 9) = false := by
      unfold good
      rw [hl9, decide_eq_false (by omega), Bool.false_and]
    have hg0 : good [] = false := by
      unfold good
      rw [decide_eq_false (by decide), Bool.false_and]
    rw [refused_ok (by rw [hl9]; decide), okb, hg9, Bool.not_false]
    simp only [eqb_f, decide_true, Bool.not_true, okb, Bool.false_eq_true, if_false]
    rw [refused_ok (by decide), okb, hg0, Bool.not_false]
    simp only [decide_true, Bool.not_true, okb, Bool.false_eq_true, if_false]
    obtain ⟨w, ew, u, hu, eu⟩ := take_ok (nums := v.1) (n := 8) (by decide)
    rw [show ((8 : Nat) : Int) = 8 from rfl] at ew
    rw [ew, okb, okb]
    dsimp only
    obtain ⟨z, ez, hz⟩ := shuffled_ok (nums := w.1) (n := 1 + u) (by omega)
    rw [show ((1 + u : Nat) : Int) = 1 + w.2 by omega] at ez
    rw [ez, okb, okb]
    dsimp only
    have hu24 : 1 + u < 2 ^ 24 := by omega
    rw [perm_len hz, rngC_nat hu24, okb, comp_nats (f := fun k => ((pos k z.2 : Nat) : Int)) (fun k hk => idx_pos hz hk), okb]
    rw [show ((List.range (1 + u)).map fun k => ((pos k z.2 : Nat) : Int)) = inv (1 + u) z.2 from rfl, invfits_ok hu24 hz rfl, okb, Bool.not_true, okb]
    simp only [Bool.false_eq_true, if_false]
    rw [invfits1_ok hu24 hz rfl, okb, Bool.not_true, okb]
    simp only [Bool.false_eq_true, if_false]
    obtain ⟨t1, t2, t3, t4⟩ := tri A0
    obtain ⟨u1, u2, u3, u4⟩ := tri A1
    rw [t1, okb, t2]
    simp only [okb]
    rw [t3, okb]
    simp only [if_true, okb]
    rw [show (mk T1).fst.fst.fst.snd = T1 from rfl, u4]
    exact yes_ok rfl
end K00


open PySem PySem.W PySem.Calls PyProof.Rows in
set_option maxRecDepth 100000 in
set_option maxHeartbeats 0 in
theorem PySem.Challenge.cw_mergesofmany_k00_any_two_tell_the_third_holds : PySem.Challenge.rw_mergesofmany_k00_any_two_tell_the_third.Holds := by
  w_on; o_law
  refine HandSHeadRun.head_any (r := OpenLaw.row PySem.Challenge.rw_mergesofmany_k00_any_two_tell_the_third) (q := view (PySem.W.OpenLaw.row PySem.Challenge.rw_mergesofmany_k00_any_two_tell_the_third).prog [30]) (H := K00.hk) (ob := K00.ob) (M := 5000) (loose := K00.loose) (d := HandSHeadRun.topDef (PySem.W.OpenLaw.row PySem.Challenge.rw_mergesofmany_k00_any_two_tell_the_third).prog 30) (kwd := []) K00.ob_eq
    (by kernel_rfl) (fun s => by kernel_rfl) K00.run (by kernel_rfl) (by kernel_rfl) (by kernel_rfl) (by rfl) (by first | assumption | decide +kernel) (by decide +kernel) ⟨rfl, rfl, rfl, rfl, rfl, by decide +kernel⟩ ?hw ?hc
  case hw => w_witness2
  case hc =>
    refine TM.walk_ofM (l := PySem.Challenge.rw_mergesofmany_k00_any_two_tell_the_third) (n := 63) (k := 6) (x := "script") rfl (by decide) (by kernel_rfl) ⟨rfl, by decide, by decide⟩ ?F
    intro w mg fa h Y G hmg0
    obtain ⟨K, KX, c⟩ := Y
    have hmg : mg ("law" : PySem.Str) = some (.ref fa) := by
      have e : (HandSHeadRun.topDef (PySem.W.OpenLaw.row PySem.Challenge.rw_mergesofmany_k00_any_two_tell_the_third).prog 30).name = ("law" : PySem.Str) := by kernel_rfl
      rw [← e]
      exact hmg0
    obtain ⟨fd, hb, hF⟩ := K00.facts (P := (PySem.W.OpenLaw.row PySem.Challenge.rw_mergesofmany_k00_any_two_tell_the_third).prog) (w := w) KX G hmg c
    exact ⟨K, fd, _, KX, hb, fun H a ns hl hO hS => TM.scr_start (b := true) hl hO hS (K00.law_true ns hl) rfl, hF⟩
