import PyProof.Rows.All
import Wide.All
import OpenK.AllK
import Wide.FinOn
import HandS.ForMost
import HandS.Deep
import HandS.Style
import HandS.Wide
import HandS.IsInst
import HandS.Flow
import PyProof.ReprLen
import PySem.Challenge.RW_talkmeans_k35_spreads

set_option Elab.async false
set_option linter.all false
set_option maxRecDepth 100000
/-! A small total reading of the program's text: values, a store of lists, an abstract syntax with its way back to the model's. -/
namespace TM
open PySem PySem.Spec PyProof.Rows L2

/-- data that never changes -/
inductive D where
  | non | bl (b : Bool) | int (i : Int) | str (x : Str)
  | lst (xs : List D) | tup (xs : List D)
  | ins (c : Str) (fs : List (Str × D))
/-- a value: data, or a place of the store -/
inductive W where
  | d (x : D) | ref (n : Nat)
/-- what stands in the store -/
inductive Ob where
  | lst (xs : List D)
  | ins (c : Str) (fs : List (Str × D))
abbrev Sto := List Ob
inductive R (α : Type) where
  | ok (a : α) (S : Sto)
  | bad
def R.bnd {α β : Type} (r : R α) (f : α → Sto → R β) : R β := match r with
  | .ok a S => f a S
  | .bad => .bad
@[simp] theorem R.bnd_ok {α β : Type} (a : α) (S : Sto) (f : α → Sto → R β) : (R.ok a S).bnd f = f a S := rfl
@[simp] theorem R.bnd_bad {α β : Type} (f : α → Sto → R β) : (R.bad : R α).bnd f = .bad := rfl
abbrev Sg := List (Option W)
abbrev LSt := L2.St
inductive Fl where
  | nx (τ : Sg) (S : Sto)
  | rt (w : W) (S : Sto)
  | bk (τ : Sg) (S : Sto)
  | ct (τ : Sg) (S : Sto)
  | bad
abbrev EM := Sg → Sto → R W
abbrev AM := Sg → Sto → R (List W)
abbrev BM := Sg → Sto → R Bool
abbrev LM := Sg → Sto → R (List D)
abbrev SM := Sg → Sto → Fl
abbrev CallO := Str → List W → Sto → R W

/-! ### the relation to the layer's heaps -/
def Fz (ρ : List Addr) (H : Hp) : Hp := fun a => if a ∈ ρ then none else H a
/-- the classes of the text: where each stands -/
abbrev CA := Str → Option Addr
mutual
inductive Rl (K : PySem.W.Frag) (cA : CA) (F : Hp) : D → V → Prop
  | non : Rl K cA F .non .non
  | bl (b : Bool) : Rl K cA F (.bl b) (.bl b)
  | int (i : Int) : Rl K cA F (.int i) (.int i)
  | str (x : Str) : Rl K cA F (.str x) (.str x)
  | lst {a : Addr} {vs : List V} {ds : List D} : SqL K F a vs → Rls K cA F ds vs → Rl K cA F (.lst ds) (.ref a)
  | tup {a : Addr} {vs : List V} {ds : List D} : SqT K F a vs → Rls K cA F ds vs → Rl K cA F (.tup ds) (.ref a)
  | ins {a dx C : Addr} {c : Str} {fs : List (Str × D)} {gs : List (Str × V)} : cA c = some C → F a = some (.ins C dx gs) → Rlf K cA F fs gs → Rl K cA F (.ins c fs) (.ref a)
inductive Rls (K : PySem.W.Frag) (cA : CA) (F : Hp) : List D → List V → Prop
  | nil : Rls K cA F [] []
  | cons {d : D} {v : V} {ds : List D} {vs : List V} : Rl K cA F d v → Rls K cA F ds vs → Rls K cA F (d :: ds) (v :: vs)
inductive Rlf (K : PySem.W.Frag) (cA : CA) (F : Hp) : List (Str × D) → List (Str × V) → Prop
  | nil : Rlf K cA F [] []
  | cons {f : Str} {d : D} {v : V} {ds : List (Str × D)} {vs : List (Str × V)} : Rl K cA F d v → Rlf K cA F ds vs → Rlf K cA F ((f, d) :: ds) ((f, v) :: vs)
end
section
variable {K : PySem.W.Frag} {cA : CA} {F F' H : Hp} {ρ : List Addr}
theorem SqT.mono {a : Addr} {xs : List V} (e : Same F F') (h : SqT K F a xs) : SqT K F' a xs := by
  rcases h with (h | ⟨o, h⟩) | h
  · exact .inl (.inl (e _ _ h))
  · exact .inl (.inr ⟨o, e _ _ h⟩)
  · exact .inr h
mutual
theorem Rl.mono (e : Same F F') : ∀ {d : D} {v : V}, Rl K cA F d v → Rl K cA F' d v
  | _, _, .non => .non
  | _, _, .bl b => .bl b
  | _, _, .int i => .int i
  | _, _, .str x => .str x
  | _, _, .lst h1 h2 => .lst (e.seq h1) (Rls.mono e h2)
  | _, _, .tup h1 h2 => .tup (SqT.mono e h1) (Rls.mono e h2)
  | _, _, .ins h0 h1 h2 => .ins h0 (e _ _ h1) (Rlf.mono e h2)
theorem Rls.mono (e : Same F F') : ∀ {d : List D} {v : List V}, Rls K cA F d v → Rls K cA F' d v
  | _, _, .nil => .nil
  | _, _, .cons h1 h2 => .cons (Rl.mono e h1) (Rls.mono e h2)
theorem Rlf.mono (e : Same F F') : ∀ {d : List (Str × D)} {v : List (Str × V)}, Rlf K cA F d v → Rlf K cA F' d v
  | _, _, .nil => .nil
  | _, _, .cons h1 h2 => .cons (Rl.mono e h1) (Rlf.mono e h2)
end
theorem Fz.sub (ρ : List Addr) (H : Hp) : Same (Fz ρ H) H := fun b o h => by
  unfold Fz at h
  split at h
  · cases h
  · exact h
theorem Rls.length : ∀ {d : List D} {v : List V}, Rls K cA F d v → d.length = v.length
  | _, _, .nil => rfl
  | _, _, .cons _ h => congrArg (· + 1) (Rls.length h)
theorem Rls.get : ∀ {d : List D} {v : List V} {i : Nat} {x : D}, Rls K cA F d v → d[i]? = some x → ∃ y, v[i]? = some y ∧ Rl K cA F x y
  | _, _, _, _, .nil, e => by simp at e
  | _, _, 0, _, .cons h _, e => by simp at e; subst e; exact ⟨_, rfl, h⟩
  | _, _, i + 1, x, .cons _ h, e => by
    obtain ⟨y, h1, h2⟩ := Rls.get (i := i) (x := x) h (by simpa using e)
    exact ⟨y, by simpa using h1, h2⟩
theorem Rls.get' : ∀ {d : List D} {v : List V} {i : Nat} {y : V}, Rls K cA F d v → v[i]? = some y → ∃ x, d[i]? = some x ∧ Rl K cA F x y
  | _, _, _, _, .nil, e => by simp at e
  | _, _, 0, _, .cons h _, e => by simp at e; subst e; exact ⟨_, rfl, h⟩
  | _, _, i + 1, x, .cons _ h, e => by
    obtain ⟨y, h1, h2⟩ := Rls.get' (i := i) (y := x) h (by simpa using e)
    exact ⟨y, by simpa using h1, h2⟩
theorem Rls.append : ∀ {d d' : List D} {v v' : List V}, Rls K cA F d v → Rls K cA F d' v' → Rls K cA F (d ++ d') (v ++ v')
  | _, _, _, _, .nil, h => h
  | _, _, _, _, .cons h1 h2, h => .cons h1 (Rls.append h2 h)
theorem Rls.set {x : D} {y : V} (r : Rl K cA F x y) : ∀ {d : List D} {v : List V} (i : Nat), Rls K cA F d v → Rls K cA F (d.set i x) (v.set i y)
  | _, _, _, .nil => .nil
  | _, _, 0, .cons _ h => .cons r h
  | _, _, i + 1, .cons h1 h2 => .cons h1 (Rls.set r i h2)
theorem Rls.take : ∀ {d : List D} {v : List V} (n : Nat), Rls K cA F d v → Rls K cA F (d.take n) (v.take n)
  | _, _, 0, _ => .nil
  | _, _, _ + 1, .nil => .nil
  | _, _, n + 1, .cons r t => .cons r (Rls.take n t)
theorem Rls.drop : ∀ {d : List D} {v : List V} (n : Nat), Rls K cA F d v → Rls K cA F (d.drop n) (v.drop n)
  | _, _, 0, r => r
  | _, _, _ + 1, .nil => .nil
  | _, _, n + 1, .cons _ t => Rls.drop n t
theorem Rls.eraseIdx : ∀ {d : List D} {v : List V} (n : Nat), Rls K cA F d v → Rls K cA F (d.eraseIdx n) (v.eraseIdx n)
  | _, _, _, .nil => .nil
  | _, _, 0, .cons _ t => t
  | _, _, n + 1, .cons r t => .cons r (Rls.eraseIdx n t)
theorem Rls.inj : ∀ {d : List D} {v : List V}, Rls K cA F d v → (∀ x ∈ d, ∃ b, x = .bl b) → ∃ bs : List Bool, d = bs.map .bl ∧ v = bs.map .bl
  | _, _, .nil, _ => ⟨[], rfl, rfl⟩
  | _, _, .cons (d := d) h1 h2, h => by
    obtain ⟨b, rfl⟩ := h d (by simp)
    cases h1
    obtain ⟨bs, rfl, rfl⟩ := Rls.inj h2 fun x hx => h x (by simp [hx])
    exact ⟨b :: bs, rfl, rfl⟩
end
/-- a value's relation -/
inductive Rw (K : PySem.W.Frag) (cA : CA) (ρ : List Addr) (F : Hp) : W → V → Prop
  | d {x : D} {v : V} : Rl K cA F x v → Rw K cA ρ F (.d x) v
  | ref {n : Nat} {a : Addr} : ρ[n]? = some a → Rw K cA ρ F (.ref n) (.ref a)
inductive Rws (K : PySem.W.Frag) (cA : CA) (ρ : List Addr) (F : Hp) : List W → List V → Prop
  | nil : Rws K cA ρ F [] []
  | cons {d : W} {v : V} {ds : List W} {vs : List V} : Rw K cA ρ F d v → Rws K cA ρ F ds vs → Rws K cA ρ F (d :: ds) (v :: vs)
/-- slots -/
inductive Ro (K : PySem.W.Frag) (cA : CA) (ρ : List Addr) (F : Hp) : Option W → Option V → Prop
  | none {v : Option V} : Ro K cA ρ F none v
  | some {w : W} {v : V} : Rw K cA ρ F w v → Ro K cA ρ F (some w) (some v)
inductive Ros (K : PySem.W.Frag) (cA : CA) (ρ : List Addr) (F : Hp) : Sg → LSt → Prop
  | nil : Ros K cA ρ F [] []
  | cons {d : Option W} {v : Option V} {ds : Sg} {vs : LSt} : Ro K cA ρ F d v → Ros K cA ρ F ds vs → Ros K cA ρ F (d :: ds) (v :: vs)
/-- what stands at a place of the store -/
def Obr (K : PySem.W.Frag) (cA : CA) (F H : Hp) (a : Addr) : Ob → Prop
  | .lst ds => ∃ vs, H a = some (.lst vs) ∧ Rls K cA F ds vs
  | .ins c fs => ∃ C dx gs, cA c = some C ∧ H a = some (.ins C dx gs) ∧ Rlf K cA F fs gs
structure Sm (K : PySem.W.Frag) (cA : CA) (ρ : List Addr) (S : Sto) (H : Hp) : Prop where
  nd : ρ.Nodup
  len : ρ.length = S.length
  ob : ∀ (n : Nat) (o : Ob) (a : Addr), S[n]? = some o → ρ[n]? = some a → Obr K cA (Fz ρ H) H a o
  there : ∀ a ∈ ρ, ∃ o, H a = some o
/-- onward: places and frozen things stay -/
structure Ext (ρ : List Addr) (H : Hp) (ρ' : List Addr) (H' : Hp) : Prop where
  pre : ρ <+: ρ'
  same : Same (Fz ρ H) (Fz ρ' H')
theorem Ext.refl (ρ : List Addr) (H : Hp) : Ext ρ H ρ H := ⟨List.prefix_refl _, Same.refl _⟩
theorem Ext.trans {ρ ρ1 ρ2 : List Addr} {H H1 H2 : Hp} (a : Ext ρ H ρ1 H1) (b : Ext ρ1 H1 ρ2 H2) : Ext ρ H ρ2 H2 := ⟨a.pre.trans b.pre, a.same.trans b.same⟩
section
variable {K : PySem.W.Frag} {cA : CA} {ρ ρ' : List Addr} {H H' : Hp} {S S' : Sto}
theorem pre_get {α : Type} {l l' : List α} (h : l <+: l') {n : Nat} {a : α} (e : l[n]? = some a) : l'[n]? = some a := by
  obtain ⟨t, rfl⟩ := h
  rw [List.getElem?_append_left (List.getElem?_eq_some_iff.mp e).1]
  exact e
theorem Rw.ext (x : Ext ρ H ρ' H') {w : W} {v : V} (h : Rw K cA ρ (Fz ρ H) w v) : Rw K cA ρ' (Fz ρ' H') w v := by
  cases h with
  | d r => exact .d (r.mono x.same)
  | ref e => exact .ref (pre_get x.pre e)
theorem Rws.ext (x : Ext ρ H ρ' H') : ∀ {w : List W} {v : List V}, Rws K cA ρ (Fz ρ H) w v → Rws K cA ρ' (Fz ρ' H') w v
  | _, _, .nil => .nil
  | _, _, .cons h1 h2 => .cons (h1.ext x) (Rws.ext x h2)
theorem Ros.ext (x : Ext ρ H ρ' H') : ∀ {w : Sg} {v : LSt}, Ros K cA ρ (Fz ρ H) w v → Ros K cA ρ' (Fz ρ' H') w v
  | _, _, .nil => .nil
  | _, _, .cons .none h2 => .cons .none (Ros.ext x h2)
  | _, _, .cons (.some h1) h2 => .cons (.some (h1.ext x)) (Ros.ext x h2)
theorem Ros.get {F : Hp} : ∀ {τ : Sg} {σ : LSt} {i : Nat} {w : W}, Ros K cA ρ F τ σ → τ[i]? = some (some w) → ∃ v, σ[i]? = some (some v) ∧ Rw K cA ρ F w v
  | _, _, _, _, .nil, e => by simp at e
  | _, _, 0, _, .cons (.some h) _, e => by simp at e; subst e; exact ⟨_, rfl, h⟩
  | _, _, 0, _, .cons .none _, e => by simp at e
  | _, _, i + 1, x, .cons _ h, e => by
    obtain ⟨y, h1, h2⟩ := Ros.get (i := i) (w := x) h (by simpa using e)
    exact ⟨y, by simpa using h1, h2⟩
theorem Ros.set {F : Hp} {w : W} {v : V} (r : Rw K cA ρ F w v) : ∀ {τ : Sg} {σ : LSt} (i : Nat), Ros K cA ρ F τ σ → Ros K cA ρ F (τ.set i (some w)) (σ.set i (some v))
  | _, _, _, .nil => .nil
  | _, _, 0, .cons _ h => .cons (.some r) h
  | _, _, i + 1, .cons h1 h2 => .cons h1 (Ros.set r i h2)
theorem Ros.unset {F : Hp} {o : Option V} : ∀ {τ : Sg} {σ : LSt} (i : Nat), Ros K cA ρ F τ σ → Ros K cA ρ F (τ.set i none) (σ.set i o)
  | _, _, _, .nil => .nil
  | _, _, 0, .cons _ h => .cons .none h
  | _, _, i + 1, .cons h1 h2 => .cons h1 (Ros.unset i h2)
theorem Ros.length {F : Hp} : ∀ {τ : Sg} {σ : LSt}, Ros K cA ρ F τ σ → τ.length = σ.length
  | _, _, .nil => rfl
  | _, _, .cons _ h => congrArg (· + 1) (Ros.length h)
theorem Rws.length {F : Hp} : ∀ {τ : List W} {σ : List V}, Rws K cA ρ F τ σ → τ.length = σ.length
  | _, _, .nil => rfl
  | _, _, .cons _ h => congrArg (· + 1) (Rws.length h)
theorem Rws.append {F : Hp} : ∀ {d d' : List W} {v v' : List V}, Rws K cA ρ F d v → Rws K cA ρ F d' v' → Rws K cA ρ F (d ++ d') (v ++ v')
  | _, _, _, _, .nil, h => h
  | _, _, _, _, .cons h1 h2, h => .cons h1 (Rws.append h2 h)
/-- slots forgotten -/
def wipeS (τ : Sg) : List Nat → Sg
  | [] => τ
  | v :: vs => (wipeS τ vs).set v none
theorem Ros.wipe {F : Hp} {τ : Sg} {σ : LSt} (h : Ros K cA ρ F τ σ) : ∀ vs : List Nat, Ros K cA ρ F (wipeS τ vs) (wipe σ vs)
  | [] => h
  | v :: vs => (Ros.wipe h vs).unset v

theorem Fz_of_not {a : Addr} (h : a ∉ ρ) : Fz ρ H a = H a := by unfold Fz; rw [if_neg h]
theorem Sm.lt (m : Sm K cA ρ S H) {n : Nat} {o : Ob} (e : S[n]? = some o) : ∃ a, ρ[n]? = some a := by
  have h1 := (List.getElem?_eq_some_iff.mp e).1
  have h2 := m.len
  exact ⟨ρ[n]'(by omega), List.getElem?_eq_getElem _⟩
theorem Sm.not_mem (m : Sm K cA ρ S H) {p : Addr} (h : H p = none) : p ∉ ρ := fun hm => by
  obtain ⟨o, e⟩ := m.there p hm
  rw [h] at e; cases e
/-- a new thing that is frozen at once -/
theorem Sm.laid (m : Sm K cA ρ S H) {p : Addr} {o : HO} (h : H p = none) : Sm K cA ρ S (upd H p o) ∧ Ext ρ H ρ (upd H p o) ∧ Fz ρ (upd H p o) p = some o := by
  have np := m.not_mem h
  have sm : Same (Fz ρ H) (Fz ρ (upd H p o)) := fun b u e => by
    by_cases hb : b ∈ ρ
    · unfold Fz at e; rw [if_pos hb] at e; cases e
    · rw [Fz_of_not hb] at e ⊢
      rw [upd_ne (ne_of_none e h)]
      exact e
  refine ⟨⟨m.nd, m.len, fun n ob a e1 e2 => ?_, fun a ha => ?_⟩, ⟨List.prefix_refl _, sm⟩, by rw [Fz_of_not np, upd_same]⟩
  · have ne : a ≠ p := fun (z : a = p) => np (by rw [← z]; exact List.mem_of_getElem? e2)
    have q := m.ob n ob a e1 e2
    cases ob with
    | lst ds => obtain ⟨vs, e, r⟩ := q; exact ⟨vs, by rw [upd_ne ne]; exact e, r.mono sm⟩
    | ins c fs => obtain ⟨C, dx, gs, z, e, r⟩ := q; exact ⟨C, dx, gs, z, by rw [upd_ne ne]; exact e, r.mono sm⟩
  · obtain ⟨u, e⟩ := m.there a ha
    exact ⟨u, by rw [upd_ne (fun (z : a = p) => np (by rw [← z]; exact ha))]; exact e⟩
/-- a new thing that is kept in the store -/
theorem Sm.push (m : Sm K cA ρ S H) {p : Addr} {o : HO} {ob : Ob} (h : H p = none) (r : Obr K cA (Fz ρ H) (upd H p o) p ob) : Sm K cA (ρ ++ [p]) (S ++ [ob]) (upd H p o) ∧ Ext ρ H (ρ ++ [p]) (upd H p o) := by
  have np := m.not_mem h
  have sm : Same (Fz ρ H) (Fz (ρ ++ [p]) (upd H p o)) := fun b u e => by
    by_cases hb : b ∈ ρ
    · unfold Fz at e; rw [if_pos hb] at e; cases e
    · rw [Fz_of_not hb] at e
      have nb : b ≠ p := ne_of_none e h
      rw [Fz_of_not (by simp [hb, nb]), upd_ne nb]
      exact e
  have obm : ∀ (F F' : Hp), Same F F' → ∀ (H : Hp) a ob, Obr K cA F H a ob → Obr K cA F' H a ob := fun F F' s H a ob q => by
    cases ob with
    | lst ds => obtain ⟨vs, e, r⟩ := q; exact ⟨vs, e, r.mono s⟩
    | ins c fs => obtain ⟨C, dx, gs, z, e, r⟩ := q; exact ⟨C, dx, gs, z, e, r.mono s⟩
  refine ⟨⟨?_, by simp [m.len], fun n u a e1 e2 => ?_, fun a ha => ?_⟩, ⟨List.prefix_append _ _, sm⟩⟩
  · refine List.nodup_append.mpr ⟨m.nd, by simp, fun a ha b hb z => ?_⟩
    simp at hb
    subst hb z
    exact np ha
  · by_cases hn : n < S.length
    · rw [List.getElem?_append_left hn] at e1
      rw [List.getElem?_append_left (by rw [m.len]; exact hn)] at e2
      have ne : a ≠ p := fun (z : a = p) => np (by rw [← z]; exact List.mem_of_getElem? e2)
      have q := obm _ _ sm _ _ _ (m.ob n u a e1 e2)
      cases u with
      | lst ds => obtain ⟨vs, e, r⟩ := q; exact ⟨vs, by rw [upd_ne ne]; exact e, r⟩
      | ins c fs => obtain ⟨C, dx, gs, z, e, r⟩ := q; exact ⟨C, dx, gs, z, by rw [upd_ne ne]; exact e, r⟩
    · have e : n = S.length := by
        have := (List.getElem?_eq_some_iff.mp e1).1
        simp at this
        omega
      subst e
      rw [List.getElem?_append_right (Nat.le_refl _)] at e1
      rw [List.getElem?_append_right (by rw [m.len]; exact Nat.le_refl _)] at e2
      simp [m.len] at e1 e2
      subst e1 e2
      exact obm _ _ sm _ _ _ r
  · rcases List.mem_append.mp ha with h1 | h1
    · obtain ⟨u, e⟩ := m.there a h1
      exact ⟨u, by rw [upd_ne (fun (z : a = p) => np (by rw [← z]; exact h1))]; exact e⟩
    · simp at h1
      subst h1
      exact ⟨o, upd_same⟩
theorem nodup_ix' {N : List Addr} (hN : N.Nodup) {i j : Nat} {x : Addr} (a : N[i]? = some x) (b : N[j]? = some x) : i = j := by
  obtain ⟨h1, e1⟩ := List.getElem?_eq_some_iff.mp a
  obtain ⟨h2, e2⟩ := List.getElem?_eq_some_iff.mp b
  exact (List.getElem_inj hN).mp (e1.trans e2.symm)
/-- a thing of the store is changed -/
theorem Sm.write (m : Sm K cA ρ S H) {n : Nat} {a : Addr} {o : HO} {ob : Ob} (ha : ρ[n]? = some a) (r : Obr K cA (Fz ρ H) (upd H a o) a ob) : Sm K cA ρ (S.set n ob) (upd H a o) ∧ Ext ρ H ρ (upd H a o) := by
  have ma := List.mem_of_getElem? ha
  have fe : Fz ρ (upd H a o) = Fz ρ H := by
    funext b
    by_cases hb : b ∈ ρ
    · unfold Fz; rw [if_pos hb, if_pos hb]
    · rw [Fz_of_not hb, Fz_of_not hb, upd_ne (fun (z : b = a) => hb (by rw [z]; exact ma))]
  refine ⟨⟨m.nd, by simp [m.len], fun k u b e1 e2 => ?_, fun b hb => ?_⟩, ⟨List.prefix_refl _, by rw [fe]; exact Same.refl _⟩⟩
  · rw [fe]
    by_cases hk : k = n
    · subst hk
      rw [ha] at e2; cases e2
      have hlt : k < S.length := by
        have := (List.getElem?_eq_some_iff.mp ha).1
        rw [← m.len]; exact this
      rw [List.getElem?_set_self hlt] at e1
      cases e1
      exact r
    · rw [List.getElem?_set_ne (Ne.symm hk)] at e1
      have ne : b ≠ a := fun (z : b = a) => hk (nodup_ix' m.nd e2 (by rw [z]; exact ha))
      have q := m.ob k u b e1 e2
      cases u with
      | lst ds => obtain ⟨vs, e, r⟩ := q; exact ⟨vs, by rw [upd_ne ne]; exact e, r⟩
      | ins c fs => obtain ⟨C, dx, gs, z, e, r⟩ := q; exact ⟨C, dx, gs, z, by rw [upd_ne ne]; exact e, r⟩
  · by_cases z : b = a
    · subst z; exact ⟨o, upd_same⟩
    · obtain ⟨u, e⟩ := m.there b hb
      exact ⟨u, by rw [upd_ne z]; exact e⟩
end
end TM

set_option Elab.async false
set_option linter.all false
set_option maxRecDepth 100000
namespace TM
open PySem PySem.Spec PyProof.Rows L2

/-! ### syntax -/
inductive G where
  | nm (i : Nat) (x : Str) (p : Pos)
  | tp (gs : List (Nat × Str × Pos)) (k : Nat) (p : Pos)
/-- built-ins that hand back a value; that hand back a new list -/
inductive Bi where
  | len | abs | int | max | min | tuple | sum | any | all | repr | str
inductive Fb where
  | list
inductive Mm where
  | append | pop
/-- built-in classes that isinstance asks for -/
inductive Ty where
  | int | bool | str | list | tuple
/-- what is walked: a value, range(..), enumerate(..), zip(..) -/
inductive IK where
  | val
  | rng1 (pf p : Pos)
  | rng2 (pf p : Pos)
  | enu (pf p : Pos)
  | zip (pf p : Pos)
inductive E where
  | var (i : Nat) (x : Str) (p : Pos)
  | int (i : Int) (k : Nat) (p : Pos)
  | str (x : Str) (k : Nat) (p : Pos)
  | bl (b : Bool) (k : Nat) (p : Pos)
  | non (k : Nat) (p : Pos)
  | glo (x : Str) (p : Pos)
  | bin (o : Operator) (a b : E) (p : Pos)
  | neg (a : E) (p : Pos)
  | not (a : E) (p : Pos)
  | cmp (o : CmpOp) (a b : E) (p : Pos)
  | isN (y : Bool) (a : E) (k : Nat) (p1 p : Pos)
  | chn (o o2 : CmpOp) (a b c : E) (p : Pos)
  | bop (o : BoolOp) (as : E) (p : Pos)
  | ite (c a b : E) (p : Pos)
  | call (f : Str) (as : E) (pf p : Pos)
  | bi (f : Bi) (as : E) (pf p : Pos)
  | fb (f : Fb) (as : E) (pf p : Pos)
  | isi (a : E) (t : Ty) (pf pt p : Pos)
  | ix (a b : E) (p : Pos)
  | sl (a lo hi : E) (p2 p : Pos)
  | tup (as : E) (k : Nat) (p : Pos)
  | lst (as : E) (p : Pos)
  | rep (as b : E) (pl p : Pos)
  | lc (own : List (Str × Nat)) (elt : E) (g : G) (k : IK) (it ifs : E) (sc : Scope) (p : Pos)
  | mm (m : Mm) (o as : E) (pa p : Pos)
  | no
  | anil
  | acons (a as : E)
inductive C where
  | nil
  | cons (s r : C)
  | set (i : Nat) (x : Str) (px : Pos) (e : E) (p : Pos)
  | setm (i : Nat) (x : Str) (px : Pos) (e : E) (p : Pos)
  | setg (gs : List (Nat × Str × Pos)) (k : Nat) (pt : Pos) (e : E) (p : Pos)
  | par (i : Nat) (x : Str) (px : Pos) (j : Nat) (y : Str) (py : Pos) (k : Nat) (pt : Pos) (fa : Bool) (a : E) (fb : Bool) (b : E) (k2 : Nat) (pe p : Pos)
  | aug (i : Nat) (x : Str) (px : Pos) (o : Operator) (e : E) (p : Pos)
  | sub (o i e : E) (ps p : Pos)
  | expr (e : E) (p : Pos)
  | ret (e : E) (p : Pos)
  | retm (e : E) (p : Pos)
  | retN (p : Pos)
  | iff (c : E) (a b : C) (p : Pos)
  | whl (c : E) (b : C) (p : Pos)
  | for_ (g : G) (k : IK) (it : E) (b : C) (p : Pos)
  | brk (p : Pos)
  | cnt (p : Pos)
  | pass (p : Pos)
  | dead (s : Stmt)

/-! ### the way back to the model's syntax -/
def Bi.nm : Bi → Str
  | .len => "len" | .abs => "abs" | .int => "int" | .max => "max" | .min => "min" | .tuple => "tuple" | .sum => "sum" | .any => "any" | .all => "all" | .repr => "repr" | .str => "str"
def Fb.nm : Fb → Str
  | .list => "list"
def Mm.nm : Mm → Str
  | .append => "append" | .pop => "pop"
def Ty.nm : Ty → Str
  | .int => "int" | .bool => "bool" | .str => "str" | .list => "list" | .tuple => "tuple"
def G.un : G → Expr
  | .nm _ x p => .Name x p
  | .tp gs k p => .Tuple (gs.map fun g => .Name g.2.1 g.2.2) k p
def IK.un (k : IK) (e : Expr) (es : List Expr) : Expr := match k with
  | .val => e
  | .rng1 pf p => .Call (.Name "range" pf) es [] p
  | .rng2 pf p => .Call (.Name "range" pf) es [] p
  | .enu pf p => .Call (.Name "enumerate" pf) es [] p
  | .zip pf p => .Call (.Name "zip" pf) es [] p
def isnOp : Bool → CmpOp
  | true => .Is
  | false => .IsNot
mutual
def E.un : E → Expr
  | .var _ x p => .Name x p
  | .int i k p => .Constant (.int i) k p
  | .str x k p => .Constant (.str x) k p
  | .bl b k p => .Constant (.bool b) k p
  | .non k p => .Constant .none k p
  | .glo x p => .Name x p
  | .bin o a b p => .BinOp a.un o b.un p
  | .neg a p => .UnaryOp .USub a.un p
  | .not a p => .UnaryOp .Not a.un p
  | .cmp o a b p => .Compare a.un [o] [b.un] p
  | .isN y a k p1 p => .Compare a.un [isnOp y] [.Constant .none k p1] p
  | .chn o o2 a b c p => .Compare a.un [o, o2] [b.un, c.un] p
  | .bop o as p => .BoolOp o as.uns p
  | .ite c a b p => .IfExp c.un a.un b.un p
  | .call f as pf p => .Call (.Name f pf) as.uns [] p
  | .bi f as pf p => .Call (.Name f.nm pf) as.uns [] p
  | .fb f as pf p => .Call (.Name f.nm pf) as.uns [] p
  | .isi a t pf pt p => .Call (.Name "isinstance" pf) [a.un, .Name t.nm pt] [] p
  | .ix a b p => .Subscript a.un b.un p
  | .sl a lo hi p2 p => .Subscript a.un (.Slice lo.uno hi.uno none p2) p
  | .tup as k p => .Tuple as.uns k p
  | .lst as p => .List as.uns p
  | .rep as b pl p => .BinOp (.List as.uns pl) .Mult b.un p
  | .lc _ elt g k it ifs sc p => .ListComp elt.un [⟨g.un, k.un it.un it.uns, ifs.uns, 0⟩] sc p
  | .mm m o as pa p => .Call (.Attribute o.un m.nm pa) as.uns [] p
  | .no => .Constant .none 0 ⟨0, 0, 0, 0⟩
  | .anil => .Constant .none 0 ⟨0, 0, 0, 0⟩
  | .acons _ _ => .Constant .none 0 ⟨0, 0, 0, 0⟩
def E.uns : E → List Expr
  | .acons a as => a.un :: as.uns
  | _ => []
def E.uno : E → Option Expr
  | .no => none
  | .anil => none
  | .acons a _ => some a.un
  | _ => none
end
mutual
def C.un : C → Stmt
  | .nil => .Pass ⟨0, 0, 0, 0⟩
  | .cons _ _ => .Pass ⟨0, 0, 0, 0⟩
  | .set _ x px e p => .Assign [.Name x px] e.un p
  | .setm _ x px e p => .Assign [.Name x px] e.un p
  | .setg gs k pt e p => .Assign [.Tuple (gs.map fun g => .Name g.2.1 g.2.2) k pt] e.un p
  | .par _ x px _ y py k pt _ a _ b k2 pe p => .Assign [.Tuple [.Name x px, .Name y py] k pt] (.Tuple [a.un, b.un] k2 pe) p
  | .aug _ x px o e p => .AugAssign (.Name x px) o e.un p
  | .sub o i e ps p => .Assign [.Subscript o.un i.un ps] e.un p
  | .expr e p => .Expr e.un p
  | .ret e p => .Return (some e.un) p
  | .retm e p => .Return (some e.un) p
  | .retN p => .Return none p
  | .iff c a b p => .If c.un a.uns b.uns p
  | .whl c b p => .While c.un b.uns [] p
  | .for_ g k it b p => .For g.un (k.un it.un it.uns) b.uns [] p
  | .brk p => .Break p
  | .cnt p => .Continue p
  | .pass p => .Pass p
  | .dead s => s
def C.uns : C → List Stmt
  | .cons s r => s.un :: r.uns
  | _ => []
end

/-! ### meaning -/
/-- what a value is as data -/
def rd (S : Sto) : W → Option D
  | .d x => some x
  | .ref n => match S[n]? with
    | some (.lst xs) => some (.lst xs)
    | _ => none
def intsD : List D → Option (List Int)
  | [] => some []
  | .int i :: r => (intsD r).map (i :: ·)
  | _ :: _ => none
def boolsD : List D → Option (List Bool)
  | [] => some []
  | .bl b :: r => (boolsD r).map (b :: ·)
  | _ :: _ => none
/-- values that are data -/
def dats : List W → Option (List D)
  | [] => some []
  | .d x :: r => (dats r).map (x :: ·)
  | _ :: _ => none
mutual
/-- as the library's data -/
def D.py : D → Option PyData
  | .non => some .none
  | .bl b => some (.bool b)
  | .int i => some (.int i)
  | .str x => some (.str x)
  | .lst xs => (pys xs).map .list
  | .tup xs => (pys xs).map .tuple
  | .ins _ _ => none
def pys : List D → Option (List PyData)
  | [] => some []
  | x :: r => match x.py, pys r with
    | some y, some ys => some (y :: ys)
    | _, _ => none
end
open Classical in
noncomputable def opE (o : Operator) (x y : W) (S : Sto) : R W := match o, rd S x, rd S y with
  | .Add, some (.int i), some (.int j) => .ok (.d (.int (i + j))) S
  | .Sub, some (.int i), some (.int j) => .ok (.d (.int (i - j))) S
  | .Mult, some (.int i), some (.int j) => if IntMulOk i j then .ok (.d (.int (i * j))) S else .bad
  | .FloorDiv, some (.int i), some (.int j) => if j ≠ 0 ∧ j.natAbs.log2 < 9000 then .ok (.d (.int (i.fdiv j))) S else .bad
  | .Mod, some (.int i), some (.int j) => if j ≠ 0 then .ok (.d (.int (i.fmod j))) S else .bad
  | .Pow, some (.int i), some (.int j) => if CPow i j then .ok (.d (.int (i ^ j.toNat))) S else .bad
  | _, _, _ => .bad
noncomputable def eqE (neg : Bool) (x y : W) (S : Sto) : R W := match (rd S x).bind D.py, (rd S y).bind D.py with
  | some a, some b => if SeqAt.shaped a = true ∧ SeqAt.shaped b = true then .ok (.d (.bl (if neg then !PyData.eqv a b else PyData.eqv a b))) S else .bad
  | _, _ => .bad
noncomputable def cmpE (o : CmpOp) (x y : W) (S : Sto) : R W := match o, rd S x, rd S y with
  | .Eq, some (.int i), some (.int j) => .ok (.d (.bl (decide (i = j)))) S
  | .NotEq, some (.int i), some (.int j) => .ok (.d (.bl (!decide (i = j)))) S
  | .Eq, some (.str i), some (.str j) => .ok (.d (.bl (decide (i = j)))) S
  | .NotEq, some (.str i), some (.str j) => .ok (.d (.bl (!decide (i = j)))) S
  | .Eq, some (.bl i), some (.bl j) => .ok (.d (.bl (decide (i = j)))) S
  | .NotEq, some (.bl i), some (.bl j) => .ok (.d (.bl (!decide (i = j)))) S
  | .Eq, _, _ => eqE false x y S
  | .NotEq, _, _ => eqE true x y S
  | .Lt, some (.int i), some (.int j) => .ok (.d (.bl (decide (i < j)))) S
  | .LtE, some (.int i), some (.int j) => .ok (.d (.bl (decide (i ≤ j)))) S
  | .Gt, some (.int i), some (.int j) => .ok (.d (.bl (decide (j < i)))) S
  | .GtE, some (.int i), some (.int j) => .ok (.d (.bl (decide (j ≤ i)))) S
  | _, _, _ => .bad
def ixE (x y : W) (S : Sto) : R W := match rd S x, y with
  | some (.lst xs), .d (.int i) => match atI xs i with
    | some d => .ok (.d d) S
    | none => .bad
  | some (.tup xs), .d (.int i) => match atI xs i with
    | some d => .ok (.d d) S
    | none => .bad
  | _, _ => .bad
def cutD (xs : List D) (lo hi : Option Int) : List D := (xs.drop (HT.sIx xs.length 0 lo)).take (HT.sIx xs.length xs.length hi - HT.sIx xs.length 0 lo)
/-- the greatest, the least -/
def maxI : Int → List Int → Int
  | m, [] => m
  | m, x :: r => maxI (if m < x then x else m) r
def minI : Int → List Int → Int
  | m, [] => m
  | m, x :: r => minI (if x < m then x else m) r
noncomputable def biE (b : Bi) (ws : List W) (S : Sto) : R W := match b, ws with
  | .len, [w] => match rd S w with
    | some (.lst xs) => .ok (.d (.int xs.length)) S
    | some (.tup xs) => .ok (.d (.int xs.length)) S
    | some (.str x) => if x.length ≤ sizeLine then .ok (.d (.int x.length)) S else .bad
    | _ => .bad
  | .abs, [.d (.int i)] => .ok (.d (.int (if i < 0 then -i else i))) S
  | .int, [.d (.int i)] => .ok (.d (.int i)) S
  | .int, [.d (.bl b)] => .ok (.d (.int (if b then 1 else 0))) S
  | .max, [.d (.int i), .d (.int j)] => .ok (.d (.int (if j > i then j else i))) S
  | .min, [.d (.int i), .d (.int j)] => .ok (.d (.int (if j < i then j else i))) S
  | .tuple, [w] => match rd S w with
    | some (.lst xs) => .ok (.d (.tup xs)) S
    | some (.tup xs) => .ok (.d (.tup xs)) S
    | _ => .bad
  | .sum, [w] => match rd S w with
    | some (.lst xs) => match intsD xs with
      | some ns => .ok (.d (.int ns.sum)) S
      | none => .bad
    | _ => .bad
  | .any, [w] => match rd S w with
    | some (.lst xs) => match boolsD xs with
      | some bs => .ok (.d (.bl (bs.any id))) S
      | none => .bad
    | _ => .bad
  | .all, [w] => match rd S w with
    | some (.lst xs) => match boolsD xs with
      | some bs => .ok (.d (.bl (bs.all id))) S
      | none => .bad
    | _ => .bad
  | .repr, [w] => match (rd S w).bind D.py with
    | some a => if a.showable = true ∧ a.depth ≤ 60 ∧ a.shown.length ≤ sizeLine then .ok (.d (.str a.shown)) S else .bad
    | _ => .bad
  | _, _ => .bad
/-- a new list -/
def fbE (b : Fb) (ws : List W) (S : Sto) : R (List D) := match b, ws with
  | .list, [w] => match rd S w with
    | some (.lst xs) => .ok xs S
    | some (.tup xs) => .ok xs S
    | _ => .bad
  | _, _ => .bad
def isiE (t : Ty) (w : W) (S : Sto) : R W := match rd S w, t with
  | some .non, _ => .ok (.d (.bl false)) S
  | some (.bl _), .int => .ok (.d (.bl true)) S
  | some (.bl _), .bool => .ok (.d (.bl true)) S
  | some (.bl _), _ => .ok (.d (.bl false)) S
  | some (.int _), .int => .ok (.d (.bl true)) S
  | some (.int _), _ => .ok (.d (.bl false)) S
  | some (.str _), .str => .ok (.d (.bl true)) S
  | some (.str _), _ => .ok (.d (.bl false)) S
  | some (.lst _), .list => .ok (.d (.bl true)) S
  | some (.lst _), _ => .ok (.d (.bl false)) S
  | some (.tup _), .tuple => .ok (.d (.bl true)) S
  | some (.tup _), _ => .ok (.d (.bl false)) S
  | _, _ => .bad
/-- a list of the store -/
def isL (S : Sto) : W → Bool
  | .ref n => match S[n]? with
    | some (.lst _) => true
    | _ => false
  | .d _ => false
def mmE (m : Mm) (o : W) (ws : List W) (S : Sto) : R W := match m, o, ws with
  | .append, .ref n, [.d x] => match S[n]? with
    | some (.lst xs) => if xs.length < sizeLine then .ok (.d .non) (S.set n (.lst (xs ++ [x]))) else .bad
    | _ => .bad
  | .pop, .ref n, [.d (.int i)] => match S[n]? with
    | some (.lst xs) => if 0 ≤ i ∧ i < 2 ^ 62 then match xs[i.toNat]? with
      | some y => .ok (.d y) (S.set n (.lst (xs.eraseIdx i.toNat)))
      | none => .bad
      else .bad
    | _ => .bad
  | _, _, _ => .bad
/-- a target takes a value -/
def setN (τ : Sg) : List (Nat × Str × Pos) → List D → Option Sg
  | [], [] => some τ
  | g :: gs, d :: ds => setN (τ.set g.1 (some (.d d))) gs ds
  | _, _ => none
def G.go (g : G) (w : W) (τ : Sg) : Option Sg := match g, w with
  | .nm i _ _, w => some (τ.set i (some w))
  | .tp gs _ _, .d (.tup ds) => setN τ gs ds
  | _, _ => none
/-- what a loop walks -/
inductive Iv where
  | sn (ds : List D)
  | lv (n : Nat) (ds : List D)
def rngL (i : Int) (n : Nat) : List D := (List.range n).map fun k => .int (i + (k : Nat))
def rng1E (ws : List W) (S : Sto) : R Iv := match ws with
  | [.d (.int j)] => if -(2 ^ 62) ≤ j ∧ j < 2 ^ 62 then .ok (.sn (rngL 0 j.toNat)) S else .bad
  | _ => .bad
def rng2E (ws : List W) (S : Sto) : R Iv := match ws with
  | [.d (.int i), .d (.int j)] => if -(2 ^ 62) ≤ i ∧ i < 2 ^ 62 ∧ -(2 ^ 62) ≤ j ∧ j < 2 ^ 62 then .ok (.sn (rngL i (j - i).toNat)) S else .bad
  | _ => .bad
def valI (w : W) (S : Sto) : R Iv := match w with
  | .d (.lst ds) => .ok (.sn ds) S
  | .d (.tup ds) => .ok (.sn ds) S
  | .ref n => match S[n]? with
    | some (.lst ds) => .ok (.lv n ds) S
    | _ => .bad
  | _ => .bad
def enuL : Nat → List D → List D
  | _, [] => []
  | i, d :: ds => .tup [.int (i : Nat), d] :: enuL (i + 1) ds
def zipL : List D → List D → List D
  | a :: as, b :: bs => .tup [a, b] :: zipL as bs
  | _, _ => []
open Classical in
/-- the loop of a comprehension: its list stands at k -/
noncomputable def lcX (gd : Sto → Prop) (k : Nat) (bd : W → Sto → R (Option D)) : List D → Sto → R (List D)
  | [], S => if gd S then (match S[k]? with
    | some (.lst acc) => .ok acc (S.take k)
    | _ => .bad) else .bad
  | d :: ds, S => if gd S then (bd (.d d) S).bnd fun o S1 => (match o with
    | none => lcX gd k bd ds S1
    | some x => match S1[k]? with
      | some (.lst acc) => if acc.length < sizeLine then lcX gd k bd ds (S1.set k (.lst (acc ++ [x]))) else .bad
      | _ => .bad) else .bad
def Iv.ds : Iv → List D
  | .sn ds => ds
  | .lv _ ds => ds
def Iv.gd : Iv → Sto → Prop
  | .sn _ => fun _ => True
  | .lv n ds => fun S => S[n]? = some (.lst ds)
def lcB (g : G) (mt : BM) (me : EM) (τ : Sg) (w : W) (S : Sto) : R (Option D) := match g.go w τ with
  | some τ1 => (mt τ1 S).bnd fun b S1 => if b = true then (me τ1 S1).bnd fun y S2 => (match y with
      | .d x => .ok (some x) S2
      | .ref _ => .bad) else .ok none S1
  | none => .bad
noncomputable def lcE (own : List (Str × Nat)) (g : G) (mi : Sg → Sto → R Iv) (mt : BM) (me : EM) : LM := fun τ S => (mi τ S).bnd fun iv S1 => lcX iv.gd S1.length (lcB g mt me (wipeS τ (own.map (·.2)))) iv.ds (S1 ++ [.lst []])
def asB (r : R W) : R Bool := r.bnd fun w S => match w with
  | .d (.bl b) => .ok b S
  | _ => .bad
def frzL (r : R (List D)) : R W := r.bnd fun xs S => .ok (.d (.lst xs)) S
def partE (r : R W) : R (Option Int) := r.bnd fun w S => match w with
  | .d (.int i) => .ok (some i) S
  | _ => .bad
def tupE (ws : List W) (S : Sto) : R W := match dats ws with
  | some ds => if ds.length ≤ sizeLine then .ok (.d (.tup ds)) S else .bad
  | none => .bad
def repE (xs : List D) (w : W) (S : Sto) : R (List D) := match w with
  | .d (.int j) => if 0 ≤ j ∧ j < 2 ^ 62 ∧ xs.length * j.toNat ≤ sizeLine then .ok (List.replicate j.toNat xs).flatten S else .bad
  | _ => .bad
def lstE (ws : List W) (S : Sto) : R (List D) := match dats ws with
  | some ds => if ds.length ≤ sizeLine then .ok ds S else .bad
  | none => .bad
def negE (x : W) (S : Sto) : R W := match x with
  | .d (.int i) => .ok (.d (.int (-i))) S
  | _ => .bad
def isnE (y : Bool) (x : W) (S : Sto) : R W := match x with
  | .d .non => .ok (.d (.bl y)) S
  | _ => .ok (.d (.bl !y)) S
def enuE (ws : List W) (S : Sto) : R Iv := match ws with
  | [.d (.lst xs)] => .ok (.sn (enuL 0 xs)) S
  | _ => .bad
def zipE (ws : List W) (S : Sto) : R Iv := match ws with
  | [.d (.lst xs), .d (.lst ys)] => .ok (.sn (zipL xs ys)) S
  | _ => .bad
def itE (k : IK) (me : EM) (ma : AM) (τ : Sg) (S : Sto) : R Iv := match k with
  | .val => (me τ S).bnd fun w S1 => valI w S1
  | .rng1 _ _ => (ma τ S).bnd fun ws S1 => rng1E ws S1
  | .rng2 _ _ => (ma τ S).bnd fun ws S1 => rng2E ws S1
  | .enu _ _ => (ma τ S).bnd fun ws S1 => enuE ws S1
  | .zip _ _ => (ma τ S).bnd fun ws S1 => zipE ws S1
mutual
noncomputable def evE (cl : CallO) (gc : Str → Option D) : E → EM
  | .var i _ _ => fun τ S => match τ[i]? with
    | some (some w) => .ok w S
    | _ => .bad
  | .int i _ _ => fun _ S => .ok (.d (.int i)) S
  | .str x _ _ => fun _ S => .ok (.d (.str x)) S
  | .bl b _ _ => fun _ S => .ok (.d (.bl b)) S
  | .non _ _ => fun _ S => .ok (.d .non) S
  | .glo x _ => fun _ S => match gc x with
    | some d => .ok (.d d) S
    | none => .bad
  | .bin o a b _ => fun τ S => (evE cl gc a τ S).bnd fun x S1 => (evE cl gc b τ S1).bnd fun y S2 => opE o x y S2
  | .neg a _ => fun τ S => (evE cl gc a τ S).bnd fun x S1 => negE x S1
  | .not a _ => fun τ S => (asB (evE cl gc a τ S)).bnd fun b S1 => .ok (.d (.bl (!b))) S1
  | .cmp o a b _ => fun τ S => (evE cl gc a τ S).bnd fun x S1 => (evE cl gc b τ S1).bnd fun y S2 => cmpE o x y S2
  | .isN y a _ _ _ => fun τ S => (evE cl gc a τ S).bnd fun x S1 => isnE y x S1
  | .chn o o2 a b c _ => fun τ S => (evE cl gc a τ S).bnd fun x S1 => (evE cl gc b τ S1).bnd fun y S2 => (asB (cmpE o x y S2)).bnd fun k S3 =>
      if k = true then (evE cl gc c τ S3).bnd fun z S4 => cmpE o2 y z S4 else .ok (.d (.bl false)) S3
  | .bop o as _ => fun τ S => (evB cl gc o as τ S).bnd fun b S1 => .ok (.d (.bl b)) S1
  | .ite c a b _ => fun τ S => (asB (evE cl gc c τ S)).bnd fun k S1 => if k = true then evE cl gc a τ S1 else evE cl gc b τ S1
  | .call f as _ _ => fun τ S => (evA cl gc as τ S).bnd fun ws S1 => cl f ws S1
  | .bi f as _ _ => fun τ S => (evA cl gc as τ S).bnd fun ws S1 => biE f ws S1
  | .fb f as _ _ => fun τ S => frzL ((evA cl gc as τ S).bnd fun ws S1 => fbE f ws S1)
  | .isi a t _ _ _ => fun τ S => (evE cl gc a τ S).bnd fun x S1 => isiE t x S1
  | .ix a b _ => fun τ S => (evE cl gc a τ S).bnd fun x S1 => (evE cl gc b τ S1).bnd fun y S2 => ixE x y S2
  | .sl _ _ _ _ _ => fun _ _ => .bad
  | .tup as _ _ => fun τ S => (evA cl gc as τ S).bnd fun ws S1 => tupE ws S1
  | .lst as _ => fun τ S => frzL ((evA cl gc as τ S).bnd fun ws S1 => lstE ws S1)
  | .rep as b _ _ => fun τ S => frzL (((evA cl gc as τ S).bnd fun ws S1 => lstE ws S1).bnd fun xs S2 => (evE cl gc b τ S2).bnd fun w S3 => repE xs w S3)
  | .lc own elt g k it ifs _ _ => fun τ S => frzL (lcE own g (itE k (evE cl gc it) (evA cl gc it)) (evTs cl gc ifs) (evE cl gc elt) τ S)
  | .mm m o as _ _ => fun τ S => (evE cl gc o τ S).bnd fun x S1 => if isL S1 x = true then (evA cl gc as τ S1).bnd fun ws S2 => mmE m x ws S2 else .bad
  | .no => fun _ _ => .bad
  | .anil => fun _ _ => .bad
  | .acons _ _ => fun _ _ => .bad
/-- arguments -/
noncomputable def evA (cl : CallO) (gc : Str → Option D) : E → AM
  | .acons a as => fun τ S => (evE cl gc a τ S).bnd fun x S1 => (evA cl gc as τ S1).bnd fun xs S2 => .ok (x :: xs) S2
  | .anil => fun _ S => .ok [] S
  | _ => fun _ _ => .bad
/-- and, or: bools -/
noncomputable def evB (cl : CallO) (gc : Str → Option D) (o : BoolOp) : E → BM
  | .acons a .anil => fun τ S => asB (evE cl gc a τ S)
  | .acons a as => fun τ S => (asB (evE cl gc a τ S)).bnd fun b S1 => match o with
      | .And => if b = true then evB cl gc o as τ S1 else .ok false S1
      | .Or => if b = true then .ok true S1 else evB cl gc o as τ S1
  | _ => fun _ _ => .bad
/-- a clause's tests -/
noncomputable def evTs (cl : CallO) (gc : Str → Option D) : E → BM
  | .acons a .anil => fun τ S => asB (evE cl gc a τ S)
  | .anil => fun _ S => .ok true S
  | _ => fun _ _ => .bad
end
/-- a new list's items -/
noncomputable def evF (cl : CallO) (gc : Str → Option D) : E → LM
  | .fb f as _ _ => fun τ S => (evA cl gc as τ S).bnd fun ws S1 => fbE f ws S1
  | .lst as _ => fun τ S => (evA cl gc as τ S).bnd fun ws S1 => lstE ws S1
  | .rep as b _ _ => fun τ S => ((evA cl gc as τ S).bnd fun ws S1 => lstE ws S1).bnd fun xs S2 => (evE cl gc b τ S2).bnd fun w S3 => repE xs w S3
  | .lc own elt g k it ifs _ _ => fun τ S => lcE own g (itE k (evE cl gc it) (evA cl gc it)) (evTs cl gc ifs) (evE cl gc elt) τ S
  | _ => fun _ _ => .bad

/-! ### statements -/
open Classical in
/-- the loop's source must stay as it is -/
noncomputable def forX (gd : Sto → Prop) (bd : W → Sg → Sto → Fl) : List D → Sg → Sto → Fl
  | [], τ, S => if gd S then .nx τ S else .bad
  | d :: ds, τ, S => if gd S then (match bd (.d d) τ S with
    | .nx τ' S' => forX gd bd ds τ' S'
    | .ct τ' S' => forX gd bd ds τ' S'
    | .bk τ' S' => .nx τ' S'
    | .rt w S' => .rt w S'
    | .bad => .bad) else .bad
def forB (g : G) (b : SM) (w : W) (τ : Sg) (S : Sto) : Fl := match g.go w τ with
  | some τ1 => b τ1 S
  | none => .bad
noncomputable def forE (g : G) (b : SM) (r : R Iv) (τ : Sg) : Fl := match r with
  | .ok iv S => forX iv.gd (forB g b) iv.ds τ S
  | .bad => .bad
def whlN (c : BM) (b : SM) : Nat → Sg → Sto → Fl
  | 0, _, _ => .bad
  | n + 1, τ, S => match c τ S with
    | .ok true S1 => (match b τ S1 with
      | .nx τ' S' => whlN c b n τ' S'
      | .ct τ' S' => whlN c b n τ' S'
      | .bk τ' S' => .nx τ' S'
      | .rt w S' => .rt w S'
      | .bad => .bad)
    | .ok false S1 => .nx τ S1
    | .bad => .bad
open Classical in
noncomputable def whlE (c : BM) (b : SM) (τ : Sg) (S : Sto) : Fl := if h : ∃ n, whlN c b n τ S ≠ .bad then whlN c b h.choose τ S else .bad
def subE (o i y : W) (S : Sto) : R Unit := match o, i, y with
  | .ref n, .d (.int k), .d x => match S[n]? with
    | some (.lst xs) => match ixN xs.length k with
      | some j => .ok () (S.set n (.lst (xs.set j x)))
      | none => .bad
    | _ => .bad
  | _, _, _ => .bad
/-- a new list, put into the store -/
def pushL (r : R (List D)) : R W := r.bnd fun xs S => .ok (.ref S.length) (S ++ [.lst xs])
noncomputable def evM (cl : CallO) (gc : Str → Option D) (f : Bool) (e : E) : EM := if f = true then fun τ S => pushL (evF cl gc e τ S) else evE cl gc e
def augE (x y : W) (S : Sto) : R W := match x, y with
  | .d (.int i), .d (.int j) => .ok (.d (.int (i + j))) S
  | _, _ => .bad
noncomputable def evS (cl : CallO) (gc : Str → Option D) : C → SM
  | .nil => fun τ S => .nx τ S
  | .cons s r => fun τ S => match evS cl gc s τ S with
    | .nx τ' S' => evS cl gc r τ' S'
    | f => f
  | .set i _ _ e _ => fun τ S => match evE cl gc e τ S with
    | .ok w S1 => .nx (τ.set i (some w)) S1
    | .bad => .bad
  | .setm i _ _ e _ => fun τ S => match evF cl gc e τ S with
    | .ok xs S1 => .nx (τ.set i (some (.ref S1.length))) (S1 ++ [.lst xs])
    | .bad => .bad
  | .setg gs k pt e _ => fun τ S => match evE cl gc e τ S with
    | .ok w S1 => (match (G.tp gs k pt).go w τ with
      | some τ1 => .nx τ1 S1
      | none => .bad)
    | .bad => .bad
  | .par i _ _ j _ _ _ _ fa a fb b _ _ _ => fun τ S => match (evM cl gc fa a τ S).bnd fun x S1 => (evM cl gc fb b τ S1).bnd fun y S2 => .ok (x, y) S2 with
    | .ok z S1 => .nx ((τ.set i (some z.1)).set j (some z.2)) S1
    | .bad => .bad
  | .aug i _ _ o e _ => fun τ S => match τ[i]? with
    | some (some x) => (match (evE cl gc e τ S).bnd fun y S1 => augE x y S1 with
      | .ok z S1 => .nx (τ.set i (some z)) S1
      | .bad => .bad)
    | _ => .bad
  | .sub o i e _ _ => fun τ S => match (evE cl gc e τ S).bnd fun y S1 => (evE cl gc o τ S1).bnd fun x S2 => (evE cl gc i τ S2).bnd fun k S3 => subE x k y S3 with
    | .ok _ S1 => .nx τ S1
    | .bad => .bad
  | .expr e _ => fun τ S => match evE cl gc e τ S with
    | .ok _ S1 => .nx τ S1
    | .bad => .bad
  | .ret e _ => fun τ S => match evE cl gc e τ S with
    | .ok w S1 => .rt w S1
    | .bad => .bad
  | .retm e _ => fun τ S => match evF cl gc e τ S with
    | .ok xs S1 => .rt (.ref S1.length) (S1 ++ [.lst xs])
    | .bad => .bad
  | .retN _ => fun _ S => .rt (.d .non) S
  | .iff c a b _ => fun τ S => match asB (evE cl gc c τ S) with
    | .ok k S1 => if k = true then evS cl gc a τ S1 else evS cl gc b τ S1
    | .bad => .bad
  | .whl c b _ => fun τ S => whlE (fun τ S => asB (evE cl gc c τ S)) (evS cl gc b) τ S
  | .for_ g k it b _ => fun τ S => forE g (evS cl gc b) (itE k (evE cl gc it) (evA cl gc it) τ S) τ
  | .brk _ => fun τ S => .bk τ S
  | .cnt _ => fun τ S => .ct τ S
  | .pass _ => fun τ S => .nx τ S
  | .dead _ => fun _ _ => .bad

/-! ### defs -/
structure Fn where
  ps : List Str
  N : List Str
  keep : Bool
  body : C
def leave (b : Nat) (keep : Bool) (w : W) (S : Sto) : R W := if keep = true then .ok w S else match w with
  | .d x => .ok (.d x) (S.take b)
  | .ref n => if n < b then .ok (.ref n) (S.take b) else match S[n]? with
    | some (.lst xs) => .ok (.d (.lst xs)) (S.take b)
    | some (.ins c fs) => .ok (.d (.ins c fs)) (S.take b)
    | none => .bad
noncomputable def Fn.run (F : Fn) (cl : CallO) (gc : Str → Option D) (ws : List W) (S : Sto) : R W :=
  if ws.length = F.ps.length then match evS cl gc F.body (ws.map some ++ List.replicate (F.N.length - ws.length) none) S with
    | .rt w S' => leave S.length F.keep w S'
    | .nx _ S' => leave S.length F.keep (.d .non) S'
    | _ => .bad
  else .bad
noncomputable def callI (T : Str → Option Fn) (gc : Str → Option D) : Nat → CallO
  | 0 => fun _ _ _ => .bad
  | n + 1 => fun f ws S => match T f with
    | some F => F.run (callI T gc n) gc ws S
    | none => .bad
end TM

set_option Elab.async false
set_option linter.all false
set_option maxRecDepth 100000
set_option maxHeartbeats 4000000
namespace TM
open PySem PySem.Spec PyProof.Rows L2

/-! ### readings by the meaning -/
section
variable (K : PySem.W.Frag) (cA : CA)
def PostW (ρ : List Addr) (H : Hp) (Q : VK) : R W → Prop
  | .ok w S' => ∀ ρ' H' v, Ext ρ H ρ' H' → Sm K cA ρ' S' H' → Rw K cA ρ' (Fz ρ' H') w v → Q v H'
  | .bad => False
def PostB (ρ : List Addr) (H : Hp) (Q : Bool → Hp → Prop) : R Bool → Prop
  | .ok b S' => ∀ ρ' H', Ext ρ H ρ' H' → Sm K cA ρ' S' H' → Q b H'
  | .bad => False
def PostA (ρ : List Addr) (H : Hp) (Q : List V → Hp → Prop) : R (List W) → Prop
  | .ok ws S' => ∀ ρ' H' vs, Ext ρ H ρ' H' → Sm K cA ρ' S' H' → Rws K cA ρ' (Fz ρ' H') ws vs → Q vs H'
  | .bad => False
/-- a new list: the heap ahead of it, its place -/
def PostF (ρ : List Addr) (H : Hp) (Q : VK) : R (List D) → Prop
  | .ok ds S' => ∀ ρ' H' vs p, Ext ρ H ρ' H' → Sm K cA ρ' S' H' → Rls K cA (Fz ρ' H') ds vs → H' p = none → Q (.ref p) (upd H' p (.lst vs))
  | .bad => False
def PostS (ρ : List Addr) (H : Hp) (D : Ends) : Fl → Prop
  | .nx τ S => ∀ ρ' H' σ, Ext ρ H ρ' H' → Sm K cA ρ' S H' → Ros K cA ρ' (Fz ρ' H') τ σ → D.nx σ H'
  | .bk τ S => ∀ ρ' H' σ, Ext ρ H ρ' H' → Sm K cA ρ' S H' → Ros K cA ρ' (Fz ρ' H') τ σ → D.bk σ H'
  | .ct τ S => ∀ ρ' H' σ, Ext ρ H ρ' H' → Sm K cA ρ' S H' → Ros K cA ρ' (Fz ρ' H') τ σ → D.ct σ H'
  | .rt w S => ∀ ρ' H' v, Ext ρ H ρ' H' → Sm K cA ρ' S H' → Rw K cA ρ' (Fz ρ' H') w v → D.rt v H'
  | .bad => False
def tE (m : EM) : TE := fun σ H Q => ∃ ρ τ S, Sm K cA ρ S H ∧ Ros K cA ρ (Fz ρ H) τ σ ∧ PostW K cA ρ H Q (m τ S)
def tT (m : BM) : TT := fun σ H Q => ∃ ρ τ S, Sm K cA ρ S H ∧ Ros K cA ρ (Fz ρ H) τ σ ∧ PostB K cA ρ H Q (m τ S)
def tA (m : AM) : TA := fun σ H Q => ∃ ρ τ S, Sm K cA ρ S H ∧ Ros K cA ρ (Fz ρ H) τ σ ∧ PostA K cA ρ H Q (m τ S)
def tF (m : LM) : TE := fun σ H Q => ∃ ρ τ S, Sm K cA ρ S H ∧ Ros K cA ρ (Fz ρ H) τ σ ∧ PostF K cA ρ H Q (m τ S)
def tS (m : SM) : TS := fun D σ H => ∃ ρ τ S, Sm K cA ρ S H ∧ Ros K cA ρ (Fz ρ H) τ σ ∧ PostS K cA ρ H D (m τ S)
/-- what a def promises -/
def spO (g : List W → Sto → R W) : Sp := fun vs H Q _ => ∃ ρ ws S, Sm K cA ρ S H ∧ Rws K cA ρ (Fz ρ H) ws vs ∧ PostW K cA ρ H Q (g ws S)
end
section
variable {K : PySem.W.Frag} {cA : CA} {ρ ρ1 : List Addr} {H H1 : Hp}
theorem PostW.ext {Q : VK} (x : Ext ρ H ρ1 H1) : ∀ {r : R W}, PostW K cA ρ H Q r → PostW K cA ρ1 H1 Q r
  | .ok _ _, h => fun ρ' H' v y s r => h ρ' H' v (x.trans y) s r
  | .bad, h => h
theorem PostB.ext {Q : Bool → Hp → Prop} (x : Ext ρ H ρ1 H1) : ∀ {r : R Bool}, PostB K cA ρ H Q r → PostB K cA ρ1 H1 Q r
  | .ok _ _, h => fun ρ' H' y s => h ρ' H' (x.trans y) s
  | .bad, h => h
theorem PostA.ext {Q : List V → Hp → Prop} (x : Ext ρ H ρ1 H1) : ∀ {r : R (List W)}, PostA K cA ρ H Q r → PostA K cA ρ1 H1 Q r
  | .ok _ _, h => fun ρ' H' v y s r => h ρ' H' v (x.trans y) s r
  | .bad, h => h
theorem PostF.ext {Q : VK} (x : Ext ρ H ρ1 H1) : ∀ {r : R (List D)}, PostF K cA ρ H Q r → PostF K cA ρ1 H1 Q r
  | .ok _ _, h => fun ρ' H' v p y s r n => h ρ' H' v p (x.trans y) s r n
  | .bad, h => h
theorem PostS.ext {D : Ends} (x : Ext ρ H ρ1 H1) : ∀ {r : Fl}, PostS K cA ρ H D r → PostS K cA ρ1 H1 D r
  | .nx _ _, h => fun ρ' H' v y s r => h ρ' H' v (x.trans y) s r
  | .bk _ _, h => fun ρ' H' v y s r => h ρ' H' v (x.trans y) s r
  | .ct _ _, h => fun ρ' H' v y s r => h ρ' H' v (x.trans y) s r
  | .rt _ _, h => fun ρ' H' v y s r => h ρ' H' v (x.trans y) s r
  | .bad, h => h
/-- one expression, then the rest -/
theorem tE_bnd {m : EM} {σ : LSt} {Q : VK} {τ : Sg} {S : Sto} (s : Sm K cA ρ S H) (r : Ros K cA ρ (Fz ρ H) τ σ) {α : Type} {P : R α → Prop} {f : W → Sto → R α} (hb : ¬ P .bad) (h : P ((m τ S).bnd f))
    (k : ∀ w S1 ρ1 H1 v, Ext ρ H ρ1 H1 → Sm K cA ρ1 S1 H1 → Rw K cA ρ1 (Fz ρ1 H1) w v → Ros K cA ρ1 (Fz ρ1 H1) τ σ → P (f w S1) → Q v H1) : tE K cA m σ H Q := by
  refine ⟨ρ, τ, S, s, r, ?_⟩
  cases e : m τ S with
  | ok w S1 =>
    rw [e] at h
    exact fun ρ' H' v x s' rw' => k w S1 ρ' H' v x s' rw' (r.ext x) h
  | bad =>
    rw [e] at h
    exact (hb h).elim
theorem tA_bnd {m : AM} {σ : LSt} {Q : List V → Hp → Prop} {τ : Sg} {S : Sto} (s : Sm K cA ρ S H) (r : Ros K cA ρ (Fz ρ H) τ σ) {α : Type} {P : R α → Prop} {f : List W → Sto → R α} (hb : ¬ P .bad) (h : P ((m τ S).bnd f))
    (k : ∀ w S1 ρ1 H1 v, Ext ρ H ρ1 H1 → Sm K cA ρ1 S1 H1 → Rws K cA ρ1 (Fz ρ1 H1) w v → Ros K cA ρ1 (Fz ρ1 H1) τ σ → P (f w S1) → Q v H1) : tA K cA m σ H Q := by
  refine ⟨ρ, τ, S, s, r, ?_⟩
  cases e : m τ S with
  | ok w S1 =>
    rw [e] at h
    exact fun ρ' H' v x s' rw' => k w S1 ρ' H' v x s' rw' (r.ext x) h
  | bad =>
    rw [e] at h
    exact (hb h).elim
theorem tT_bnd {m : BM} {σ : LSt} {Q : Bool → Hp → Prop} {τ : Sg} {S : Sto} (s : Sm K cA ρ S H) (r : Ros K cA ρ (Fz ρ H) τ σ) {α : Type} {P : R α → Prop} {f : Bool → Sto → R α} (hb : ¬ P .bad) (h : P ((m τ S).bnd f))
    (k : ∀ b S1 ρ1 H1, Ext ρ H ρ1 H1 → Sm K cA ρ1 S1 H1 → Ros K cA ρ1 (Fz ρ1 H1) τ σ → P (f b S1) → Q b H1) : tT K cA m σ H Q := by
  refine ⟨ρ, τ, S, s, r, ?_⟩
  cases e : m τ S with
  | ok w S1 =>
    rw [e] at h
    exact fun ρ' H' x s' => k w S1 ρ' H' x s' (r.ext x) h
  | bad =>
    rw [e] at h
    exact (hb h).elim
theorem PE.weak {X : Cx} {e : Expr} {t t' : TE} (h : PE X e t) (w : ∀ σ H Q, t' σ H Q → t σ H Q) : PE X e t' := ⟨fun pins s σ H Q I q => h.run pins s σ H Q I (w σ H Q q)⟩
theorem PT.weak {X : Cx} {e : Expr} {t t' : TT} (h : PT X e t) (w : ∀ σ H Q, t' σ H Q → t σ H Q) : PT X e t' := ⟨fun pins s σ H Q I q => h.run pins s σ H Q I (w σ H Q q)⟩
theorem PW.weak {X : Cx} {e : Expr} {t t' : TT} (h : PW X e t) (w : ∀ σ H Q, t' σ H Q → t σ H Q) : PW X e t' := ⟨fun wh pins s σ H Q I q => h.run wh pins s σ H Q I (w σ H Q q)⟩
theorem PA.weak {X : Cx} {e : List Expr} {t t' : TA} (h : PA X e t) (w : ∀ σ H Q, t' σ H Q → t σ H Q) : PA X e t' := ⟨fun pos pins s σ H Q I q => h.run pos pins s σ H Q I (w σ H Q q)⟩
theorem PS.weak {X : Cx} {e : Stmt} {t t' : TS} (h : PS X e t) (w : ∀ D σ H, t' D σ H → t D σ H) : PS X e t' := ⟨fun pins s σ H D I q => h.run pins s σ H D I (w D σ H q)⟩
theorem PSs.weak {X : Cx} {e : List Stmt} {t t' : TS} (h : PSs X e t) (w : ∀ D σ H, t' D σ H → t D σ H) : PSs X e t' := ⟨fun pins s σ H D I q => h.run pins s σ H D I (w D σ H q)⟩
theorem pe_bad {X : Cx} {e : Expr} {m : EM} (h : ∀ τ S, m τ S = .bad) : PE X e (tE K cA m) := ⟨fun pins s σ H Q I q => by
  obtain ⟨ρ, τ, S, _, _, z⟩ := q
  rw [h] at z
  exact z.elim⟩

/-! ### what is read -/
theorem rd_cases {S : Sto} {w : W} {v : V} {d : D} (s : Sm K cA ρ S H) (r : Rw K cA ρ (Fz ρ H) w v) (e : rd S w = some d) :
    (w = .d d ∧ Rl K cA (Fz ρ H) d v) ∨ ∃ n xs a vs, w = .ref n ∧ d = .lst xs ∧ S[n]? = some (.lst xs) ∧ ρ[n]? = some a ∧ v = .ref a ∧ H a = some (.lst vs) ∧ Rls K cA (Fz ρ H) xs vs := by
  cases r with
  | d r =>
    cases (Option.some.inj e)
    exact .inl ⟨rfl, r⟩
  | ref q =>
    rename_i n a
    simp only [rd] at e
    cases f : S[n]? with
    | none => rw [f] at e; cases e
    | some o =>
      rw [f] at e
      cases o with
      | lst xs =>
        cases e
        obtain ⟨vs, h1, h2⟩ := s.ob n _ a f q
        exact .inr ⟨n, xs, a, vs, rfl, rfl, f, q, rfl, h1, h2⟩
      | ins c fs => cases e
theorem rd_lst {S : Sto} {w : W} {v : V} {ds : List D} (s : Sm K cA ρ S H) (r : Rw K cA ρ (Fz ρ H) w v) (e : rd S w = some (.lst ds)) : ∃ a vs, v = .ref a ∧ SqL K H a vs ∧ Rls K cA (Fz ρ H) ds vs := by
  rcases rd_cases s r e with ⟨_, q⟩ | ⟨n, xs, a, vs, _, z, _, _, rfl, h1, h2⟩
  · cases q with
    | lst h1 h2 => exact ⟨_, _, rfl, (Fz.sub ρ H).seq h1, h2⟩
  · cases z
    exact ⟨a, vs, rfl, .inl (.inl h1), h2⟩
theorem rd_tup {S : Sto} {w : W} {v : V} {ds : List D} (s : Sm K cA ρ S H) (r : Rw K cA ρ (Fz ρ H) w v) (e : rd S w = some (.tup ds)) : ∃ a vs, v = .ref a ∧ SqT K H a vs ∧ Rls K cA (Fz ρ H) ds vs := by
  rcases rd_cases s r e with ⟨_, q⟩ | ⟨n, xs, a, vs, _, z, _⟩
  · cases q with
    | tup h1 h2 => exact ⟨_, _, rfl, SqT.mono (Fz.sub ρ H) h1, h2⟩
  · cases z
theorem rd_int {S : Sto} {w : W} {v : V} {i : Int} (s : Sm K cA ρ S H) (r : Rw K cA ρ (Fz ρ H) w v) (e : rd S w = some (.int i)) : v = .int i := by
  rcases rd_cases s r e with ⟨_, q⟩ | ⟨n, xs, a, vs, _, z, _⟩
  · cases q; rfl
  · cases z
theorem rd_str {S : Sto} {w : W} {v : V} {i : Str} (s : Sm K cA ρ S H) (r : Rw K cA ρ (Fz ρ H) w v) (e : rd S w = some (.str i)) : v = .str i := by
  rcases rd_cases s r e with ⟨_, q⟩ | ⟨n, xs, a, vs, _, z, _⟩
  · cases q; rfl
  · cases z
theorem rd_bl {S : Sto} {w : W} {v : V} {i : Bool} (s : Sm K cA ρ S H) (r : Rw K cA ρ (Fz ρ H) w v) (e : rd S w = some (.bl i)) : v = .bl i := by
  rcases rd_cases s r e with ⟨_, q⟩ | ⟨n, xs, a, vs, _, z, _⟩
  · cases q; rfl
  · cases z
theorem rd_non {S : Sto} {w : W} {v : V} (s : Sm K cA ρ S H) (r : Rw K cA ρ (Fz ρ H) w v) (e : rd S w = some .non) : v = .non := by
  rcases rd_cases s r e with ⟨_, q⟩ | ⟨n, xs, a, vs, _, z, _⟩
  · cases q; rfl
  · cases z
mutual
theorem Rl.dp {F : Hp} : ∀ {d : D} {v : V} {e : PyData}, Rl K cA F d v → d.py = some e → Dp K F v e
  | _, _, _, .non, h => by cases h; exact .non
  | _, _, _, .bl b, h => by cases h; exact .bl b
  | _, _, _, .int i, h => by cases h; exact .int i
  | _, _, _, .str i, h => by cases h; exact .str i
  | _, _, _, .lst (ds := ds) h1 h2, h => by
    unfold D.py at h
    cases q : pys ds with
    | none => rw [q] at h; cases h
    | some es =>
      rw [q] at h
      cases h
      exact .lst h1 (Rls.dp h2 q)
  | _, _, _, .tup (ds := ds) h1 h2, h => by
    unfold D.py at h
    cases q : pys ds with
    | none => rw [q] at h; cases h
    | some es =>
      rw [q] at h
      cases h
      exact .tup h1 (Rls.dp h2 q)
  | _, _, _, .ins _ _ _, h => by
    unfold D.py at h
    cases h
theorem Rls.dp {F : Hp} : ∀ {d : List D} {v : List V} {e : List PyData}, Rls K cA F d v → pys d = some e → DpAll K F v e
  | _, _, _, .nil, h => by cases h; exact .nil
  | _, _, _, .cons (d := d) (ds := ds) h1 h2, h => by
    unfold pys at h
    cases q1 : d.py with
    | none => rw [q1] at h; cases h
    | some x =>
      cases q2 : pys ds with
      | none => rw [q1, q2] at h; cases h
      | some xs =>
        rw [q1, q2] at h
        cases h
        exact .cons (Rl.dp h1 q1) (Rls.dp h2 q2)
end
theorem rd_dp {S : Sto} {w : W} {v : V} {e : PyData} (s : Sm K cA ρ S H) (r : Rw K cA ρ (Fz ρ H) w v) (h : (rd S w).bind D.py = some e) : Dp K H v e := by
  cases q : rd S w with
  | none => rw [q] at h; cases h
  | some d =>
    rw [q] at h
    have h : d.py = some e := h
    rcases rd_cases s r q with ⟨_, q⟩ | ⟨n, xs, a, vs, _, rfl, _, _, rfl, h1, h2⟩
    · exact (q.mono (Fz.sub ρ H)).dp h
    · have : Rl K cA H (.lst xs) (.ref a) := .lst (.inl (.inl h1)) (h2.mono (Fz.sub ρ H))
      exact this.dp h
end
end TM

set_option Elab.async false
set_option linter.all false
set_option maxRecDepth 100000
set_option maxHeartbeats 4000000
namespace TM
open PySem PySem.Spec PyProof.Rows L2
section
variable {X : Cx} {cA : CA}
/-- a two-place operation by values -/
def rW (K : PySem.W.Frag) (cA : CA) (f : W → W → Sto → R W) : R2 := fun x y H Q => ∃ ρ a b S, Sm K cA ρ S H ∧ Rw K cA ρ (Fz ρ H) a x ∧ Rw K cA ρ (Fz ρ H) b y ∧ PostW K cA ρ H Q (f a b S)
/-- a call by values -/
def rWs (K : PySem.W.Frag) (cA : CA) (f : List W → Sto → R W) : List V → Hp → VK → Prop := fun xs H Q => ∃ ρ ws S, Sm K cA ρ S H ∧ Rws K cA ρ (Fz ρ H) ws xs ∧ PostW K cA ρ H Q (f ws S)
def rFs (K : PySem.W.Frag) (cA : CA) (f : List W → Sto → R (List D)) : List V → Hp → VK → Prop := fun xs H Q => ∃ ρ ws S, Sm K cA ρ S H ∧ Rws K cA ρ (Fz ρ H) ws xs ∧ PostF K cA ρ H Q (f ws S)
theorem PostW.here {K : PySem.W.Frag} {ρ : List Addr} {H : Hp} {Q : VK} {w : W} {S : Sto} {v : V} (h : PostW K cA ρ H Q (.ok w S)) (s : Sm K cA ρ S H) (r : Rw K cA ρ (Fz ρ H) w v) : Q v H := h ρ H v (Ext.refl _ _) s r
theorem fdiv_op : OpR X (binaryOp .FloorDiv) (rI (fun _ j => j ≠ 0 ∧ j.natAbs.log2 < 9000) fun i j => .int (i.fdiv j)) := opI fun _ _ _ _ _ _ _ hc q => floordiv_int hc.1 q (.inl (PyProof.noPylong_of_log2 hc.2))
theorem fmod_op : OpR X (binaryOp .Mod) (rI (fun _ j => j ≠ 0) fun i j => .int (i.fmod j)) := opI fun _ _ _ _ _ _ _ hc q => mod_int hc q
theorem mul_op : OpR X (binaryOp .Mult) (rI IntMulOk fun i j => .int (i * j)) := opI fun _ _ _ _ _ _ _ hc q => mul_int q hc
theorem op_any (o : Operator) : OpR X (binaryOp o) (rW X.K cA (opE o)) := by
  intro pins s σ H x y v u Q I rx ry h
  obtain ⟨ρ, a, b, S, sm, ra, rb, h⟩ := h
  unfold opE at h
  split at h
  · rename_i i j e1 e2
    exact op_add pins s σ H x y v u Q I rx ry ⟨i, j, rd_int sm ra e1, rd_int sm rb e2, h.here sm (.d (.int _))⟩
  · rename_i i j e1 e2
    exact op_sub pins s σ H x y v u Q I rx ry ⟨i, j, rd_int sm ra e1, rd_int sm rb e2, h.here sm (.d (.int _))⟩
  · rename_i i j e1 e2
    split at h
    · rename_i hc
      exact mul_op pins s σ H x y v u Q I rx ry ⟨i, j, rd_int sm ra e1, rd_int sm rb e2, hc, h.here sm (.d (.int _))⟩
    · exact h.elim
  · rename_i i j e1 e2
    split at h
    · rename_i hc
      exact fdiv_op pins s σ H x y v u Q I rx ry ⟨i, j, rd_int sm ra e1, rd_int sm rb e2, hc, h.here sm (.d (.int _))⟩
    · exact h.elim
  · rename_i i j e1 e2
    split at h
    · rename_i hc
      exact fmod_op pins s σ H x y v u Q I rx ry ⟨i, j, rd_int sm ra e1, rd_int sm rb e2, hc, h.here sm (.d (.int _))⟩
    · exact h.elim
  · rename_i i j e1 e2
    split at h
    · rename_i hc
      exact op_pow pins s σ H x y v u Q I rx ry ⟨i, j, rd_int sm ra e1, rd_int sm rb e2, hc, h.here sm (.d (.int _))⟩
    · exact h.elim
  · exact h.elim
theorem eq_any (hu : X.A.units + 64 < cLine) (neg : Bool) : OpR X (compareOp (if neg then .NotEq else .Eq)) (rW X.K cA (eqE neg)) := by
  intro pins s σ H x y v u Q I rx ry h
  obtain ⟨ρ, a, b, S, sm, ra, rb, h⟩ := h
  unfold eqE at h
  split at h
  · rename_i d e e1 e2
    split at h
    · rename_i hc
      cases neg with
      | true => exact op_neD hu pins s σ H x y v u Q I rx ry ⟨d, e, rd_dp sm ra e1, rd_dp sm rb e2, hc.1, hc.2, h.here sm (.d (.bl _))⟩
      | false => exact op_eqD hu pins s σ H x y v u Q I rx ry ⟨d, e, rd_dp sm ra e1, rd_dp sm rb e2, hc.1, hc.2, h.here sm (.d (.bl _))⟩
    · exact h.elim
  · exact h.elim
theorem dec_int (i j : Int) : decide (V.int i = V.int j) = decide (i = j) := by
  by_cases e : i = j
  · subst e; simp
  · rw [decide_eq_false e, decide_eq_false (fun z => e (V.int.inj z))]
theorem dec_str (i j : Str) : decide (V.str i = V.str j) = decide (i = j) := by
  by_cases e : i = j
  · subst e; simp
  · rw [decide_eq_false e, decide_eq_false (fun z => e (V.str.inj z))]
theorem dec_bl (i j : Bool) : decide (V.bl i = V.bl j) = decide (i = j) := by
  by_cases e : i = j
  · subst e; simp
  · rw [decide_eq_false e, decide_eq_false (fun z => e (V.bl.inj z))]
theorem cmp_any (hu : X.A.units + 64 < cLine) (o : CmpOp) : OpR X (compareOp o) (rW X.K cA (cmpE o)) := by
  intro pins s σ H x y v u Q I rx ry h
  obtain ⟨ρ, a, b, S, sm, ra, rb, h⟩ := h
  unfold cmpE at h
  split at h
  · rename_i i j e1 e2
    have ex := rd_int sm ra e1; have ey := rd_int sm rb e2
    subst ex ey
    exact op_eq pins s σ H _ _ v u Q I rx ry ⟨rfl, by rw [dec_int]; exact h.here sm (.d (.bl _))⟩
  · rename_i i j e1 e2
    have ex := rd_int sm ra e1; have ey := rd_int sm rb e2
    subst ex ey
    exact op_ne pins s σ H _ _ v u Q I rx ry ⟨rfl, by rw [dec_int]; exact h.here sm (.d (.bl _))⟩
  · rename_i i j e1 e2
    have ex := rd_str sm ra e1; have ey := rd_str sm rb e2
    subst ex ey
    exact op_eq pins s σ H _ _ v u Q I rx ry ⟨rfl, by rw [dec_str]; exact h.here sm (.d (.bl _))⟩
  · rename_i i j e1 e2
    have ex := rd_str sm ra e1; have ey := rd_str sm rb e2
    subst ex ey
    exact op_ne pins s σ H _ _ v u Q I rx ry ⟨rfl, by rw [dec_str]; exact h.here sm (.d (.bl _))⟩
  · rename_i i j e1 e2
    have ex := rd_bl sm ra e1; have ey := rd_bl sm rb e2
    subst ex ey
    exact op_eq pins s σ H _ _ v u Q I rx ry ⟨rfl, by rw [dec_bl]; exact h.here sm (.d (.bl _))⟩
  · rename_i i j e1 e2
    have ex := rd_bl sm ra e1; have ey := rd_bl sm rb e2
    subst ex ey
    exact op_ne pins s σ H _ _ v u Q I rx ry ⟨rfl, by rw [dec_bl]; exact h.here sm (.d (.bl _))⟩
  · exact eq_any hu false pins s σ H x y v u Q I rx ry ⟨ρ, a, b, S, sm, ra, rb, h⟩
  · exact eq_any hu true pins s σ H x y v u Q I rx ry ⟨ρ, a, b, S, sm, ra, rb, h⟩
  · rename_i i j e1 e2
    exact op_lt pins s σ H x y v u Q I rx ry ⟨i, j, rd_int sm ra e1, rd_int sm rb e2, h.here sm (.d (.bl _))⟩
  · rename_i i j e1 e2
    exact op_le pins s σ H x y v u Q I rx ry ⟨i, j, rd_int sm ra e1, rd_int sm rb e2, h.here sm (.d (.bl _))⟩
  · rename_i i j e1 e2
    exact op_gt pins s σ H x y v u Q I rx ry ⟨i, j, rd_int sm ra e1, rd_int sm rb e2, h.here sm (.d (.bl _))⟩
  · rename_i i j e1 e2
    exact op_ge pins s σ H x y v u Q I rx ry ⟨i, j, rd_int sm ra e1, rd_int sm rb e2, h.here sm (.d (.bl _))⟩
  · exact h.elim
theorem atI_rls {K : PySem.W.Frag} {F : Hp} {ds : List D} {vs : List V} {i : Int} {d : D} (r : Rls K cA F ds vs) (e : atI ds i = some d) : ∃ v, atI vs i = some v ∧ Rl K cA F d v := by
  unfold atI at e ⊢
  rw [← r.length]
  cases q : ixN ds.length i with
  | none => rw [q] at e; cases e
  | some j =>
    rw [q] at e
    exact r.get e
theorem ix_any : IxR X (rW X.K cA ixE) := by
  intro a b pins s σ H x y v u Q I rx ry h hs
  obtain ⟨ρ, wa, wb, S, sm, ra, rb, h⟩ := h
  unfold ixE at h
  split at h
  · rename_i xs i e1
    obtain ⟨p, vs, rfl, h1, h2⟩ := rd_lst sm ra e1
    cases rb with | d rb => cases rb; exact (by
      split at h
      · rename_i d e2
        obtain ⟨z, e3, r3⟩ := atI_rls h2 e2
        exact ix_seq a b pins s σ H _ _ v u Q I rx ry (.inl ⟨p, vs, i, z, rfl, rfl, h1, e3, h.here sm (.d r3)⟩) hs
      · exact h.elim)
  · rename_i xs i e1
    obtain ⟨p, vs, rfl, h1, h2⟩ := rd_tup sm ra e1
    cases rb with | d rb => cases rb; exact (by
      split at h
      · rename_i d e2
        obtain ⟨z, e3, r3⟩ := atI_rls h2 e2
        exact ix_seq a b pins s σ H _ _ v u Q I rx ry (.inr (.inl ⟨p, vs, i, z, rfl, rfl, h1, e3, h.here sm (.d r3)⟩)) hs
      · exact h.elim)
  · exact h.elim
end
end TM

set_option Elab.async false
set_option linter.all false
set_option maxRecDepth 100000
set_option maxHeartbeats 200000
namespace TM
open PySem PySem.Spec PyProof.Rows L2

/-! ### defs that are called where no repr is under way -/
structure FnG (P : Program) (w : World) (K : PySem.W.Frag) (mg : Str → Option Value) (base : Heap) (k : Nat) (f : Addr) (fd : FuncData) (ps : List Str) (sp : Sp) : Prop where
  len : ∀ vs H Q E, sp vs H Q E → vs.length = ps.length
  run : ∀ (A : Around) (outer : List Env) (s : Shared) (H : Hp) (args : Args) (us : List Value) (vs : List V) (Q : VK) (E : XK), Room k A → A.guards = some [] → Env0 P w K mg base A outer s H → BindsTo s fd args (ps.zip us) →
    Vals vs us → sp vs H Q E → codeAny (model P w) A (.call (.ref f) args) (CR CX0 outer P w H s Q E) s
theorem FnG.imp {P : Program} {w : World} {K : PySem.W.Frag} {mg : Str → Option Value} {base : Heap} {k : Nat} {f : Addr} {fd : FuncData} {ps : List Str} {sp sp' : Sp} (F : FnG P w K mg base k f fd ps sp) (h : ∀ vs H Q E, sp' vs H Q E → sp vs H Q E) : FnG P w K mg base k f fd ps sp' :=
  ⟨fun vs H Q E q => F.len vs H Q E (h _ _ _ _ q), fun A outer s H args us vs Q E r g e b v q => F.run A outer s H args us vs Q E r g e b v (h _ _ _ _ q)⟩
section
variable {X : Cx}
/-- the called def runs -/
theorem run_G {k : Nat} {f : Addr} {fd : FuncData} {ps : List Str} {sp : Sp} {pins : List (Addr × Obj)} {σ : LSt} {H : Hp} {s : Shared} {Q : VK} {us : List Value} {vs : List V} (F : FnG X.prog X.w X.K X.mg X.base k f fd ps sp) (hr : Room k X.A) (hg : X.A.guards = some [])
    (hb : Binds X.K fd ps []) (I : Inv X pins σ H s) (r : Vals vs us) (h : sp vs H Q E0) : wpAny (model X.prog X.w) X.A (call (.ref f) us) (EP X pins σ Q) X.xe s := by
  have many : us.length = ps.length := r.length ▸ F.len _ _ _ _ h
  have bd : BindsTo s fd ⟨us, []⟩ (ps.zip us) := by simpa using hb s us I.kIn (by simpa using many)
  refine wpAny_call (codeAny_mono (F.run X.A X.stack s H ⟨us, []⟩ us vs Q E0 hr hg I.env0 bd r h) fun out s' got => ?_)
  match out, got with
  | .ok (.ret _), got => exact I.after got
/-- f(e, ..) -/
theorem pe_G {k : Nat} {f : Addr} {fd : FuncData} {ps : List Str} {sp : Sp} {x : Str} {p pos : Pos} {e : Expr} {es : List Expr} {t : TA} (F : FnG X.prog X.w X.K X.mg X.base k f fd ps sp) (hr : Room k X.A) (hq : X.A.guards = some []) (hg : Gl X x) (hm : X.mg x = some (.ref f))
    (hk : PySem.W.keepIn X.K (.ref f) = true) (hb : Binds X.K fd ps []) (ha : PA X (e :: es) t) (hdb : (x == ("__debug__" : Str)) = false) (he : starEach (e :: es) X.env = (false, eval e X.env) :: starEach es X.env)
    (hpl : (backTo pos (starEach es X.env)).any (·.1) = false) : PE X (.Call (.Name x p) (e :: es) [] pos) (fun σ H Q => t σ H fun vs H1 => sp vs H1 Q E0) := by
  refine ⟨fun pins s σ H Q I h => ?_⟩
  refine wpAny_Call_Name_kw (ld_glob I hg hm ?_ hdb)
  refine PySem.W.callWith_K (h₀ := X.base) I.ok.mod.kin hk ?_ he hpl
  refine thn (ha.run pos pins s σ H _ I h) ?_
  rintro us s1 ⟨vs, H1, I1, r, q⟩
  exact ⟨I1.kIn, run_G F hr hq hb I1 r q⟩
end
/-- a def by its body -/
theorem fn_G {P : Program} {w : World} {K : PySem.W.Frag} {mg : Str → Option Value} {base : Heap} {k : Nat} {x qual : Str} {st : Stmt} {f : Addr} {fd : FuncData} {N ps : List Str} {sp : Sp} (F : Fun K x qual st f fd) (S : FnScope N ps (defScope st)) (len : ∀ vs H Q E, sp vs H Q E → vs.length = ps.length)
    (body : ∀ (cdv : Value) (A : Around) (outer : List Env) (s : Shared) (H : Hp) (vs : List V) (Q : VK) (E : XK), Room k (A.deeper (envOfC qual (defScope st) s.heap.objs.size f cdv)) → A.guards = some [] → sp vs H Q E →
      ∃ t, PSs (cxOf CX0 P w K mg base N qual (defScope st) f cdv A outer s H E).nox (defBody st) t ∧ t { nx := fun _ H' => Q .non H', rt := Q } (start N vs) H) : FnG P w K mg base (k + 1) f fd ps sp := by
  obtain ⟨oc, od, kV, doc, pm, an, cdv, ct, osl, rfl, lk, hcd⟩ := F.ex
  refine ⟨len, fun A outer s H args us vs Q E hr hg e0 hb r hsp => ?_⟩
  have kin : K.In s.heap := e0.mod.kin.keeps fun b o e => (e0.bs b o e).1
  have names : ∀ y ∈ ps.zip us, (defScope st).names.lookup y.1 = some .local ∨ ((defScope st).names.lookup y.1 = some .cell ∧ ((cellsFrom (s.heap.objs.size + 1) (defScope st).names []).lookup y.1).isSome = true) := by
    intro y hy
    exact (S.par y.1 (List.of_mem_zip (a := y.1) (b := y.2) hy).1).elim .inl fun q => .inr ⟨q, PySem.W.cellsFrom_some _ _ _ (.inl q)⟩
  refine codeAny_call_function hr.depth (kin _ _ lk) rfl S.co S.gen rfl (PySem.W.codeRec_of kin hcd) (hb _ _ _ _ (wpAny_newFunctionEnv_cells S.kind names fun env he s1 inn => ?_))
  subst he
  refine ⟨(e0.mod.nolimit.keeps fun b o e => (e0.bs b o e).1).keeps inn.toInCall.keep, codeAny_func ?_⟩
  obtain ⟨t, ht, hq⟩ := body cdv A outer s H vs Q E (hr.deeper _) hg hsp
  have I := inv_start (CX := CX0) (E := E) S hr.hd e0 (len _ _ _ _ hsp) r inn
  refine wpAny_mono (ht.nox.run [] s1 _ H _ I hq) (fun fl s' got => ?_) fun _ _ got => got
  cases fl with
  | ret u =>
    obtain ⟨v, σ', H', J, rv, q⟩ := got
    exact ⟨v, H', J.os, J.bare, J.base, J.hok, rv, q⟩
  | next =>
    obtain ⟨σ', H', J, q⟩ := got
    exact ⟨.non, H', J.os, J.bare, J.base, J.hok, rfl, q⟩
  | brk => obtain ⟨_, _, _, q⟩ := got; exact False.elim q
  | cont => obtain ⟨_, _, _, q⟩ := got; exact False.elim q
/-- the law's call, at the heap behind the top -/
theorem law_G {P : Program} {w : World} {K : PySem.W.Frag} {mg mb : Str → Option Value} {k : Nat} {fa a : Addr} {fd : FuncData} {x : Str} {sp : Sp} {s1 : Shared} {us : List Value} {ns : List Int} (KX : K.In s1.heap) (hns : s1.heap.Ns mainGlobals mg) (hb : s1.heap.Ns builtinsNs mb)
    (hbb : ∀ x : Str, x ≠ "__name__" → mb x = bootBuiltins x) (hlim : s1.heap.NoLimit) (hg : s1.gens = #[]) (ha : s1.heap.get? a = some { cls := .type "list", data := .seq us.toArray }) (hi : IntsAre us ns) (hl : ns.length ≤ sizeLine) (hr : Room k callerA)
    (F : ∀ base : Heap, K.In base → base.Ns mainGlobals mg → FnG P w K mg base k fa fd [x] sp) (hbind : ∀ (s : Shared) (u : Value), BindsTo s fd ⟨[u], []⟩ [(x, u)])
    (hsp : ∀ H : Hp, SqL K H a (ns.map V.int) → sp [.ref a] H (fun v _ => v = .bl true) E0) :
    codeAny (model P w) callerA (.call (.ref fa) ⟨[.ref a], []⟩) (fun r s' => r = .ok (.ret (.bool true)) ∧ OldK s1.heap s'.heap ∧ s'.os = s1.os ∧ AllBare s'.gens) s1 := by
  -- the abstract heap: nothing, or the script alone
  have main : ∀ H : Hp, (∀ b, H b = none ∨ ∃ o xs, H b = some (.frz o (.lst xs))) → SqL K H a (ns.map V.int) → HOk P w H s1.heap → (∀ b, H b ≠ none → b = a ∧ K.lookup a = none) →
      codeAny (model P w) callerA (.call (.ref fa) ⟨[.ref a], []⟩) (fun r s' => r = .ok (.ret (.bool true)) ∧ OldK s1.heap s'.heap ∧ s'.os = s1.os ∧ AllBare s'.gens) s1 := by
    intro H only sq hok at_a
    have free : ∀ b : Addr, (b = a → K.lookup a ≠ none ∨ False) → H b = none := fun b h => by
      cases q : H b with
      | none => rfl
      | some u =>
        obtain ⟨e, z⟩ := at_a b (by rw [q]; simp)
        exact ((h e).elim (fun y => y z) id).elim
    have dict : ∀ {b : Addr} {o : Obj} {es : Array DictEntry} {ep : Nat}, s1.heap.get? b = some o → o.data = .dict es ep → H b = none := fun {b o es ep} e d => by
      cases q : H b with
      | none => rfl
      | some u =>
        obtain ⟨z, _⟩ := at_a b (by rw [q]; simp)
        rw [z, ha] at e
        cases e
        cases d
    have ns' : ∀ {b : Addr} {m : Str → Option Value}, s1.heap.Ns b m → (hidT s1.heap H).Ns b m := fun ⟨o, es, ep, e, d, r⟩ => ⟨o, es, ep, hidT_get e (dict e d), d, r⟩
    have kb : K.In (hidT s1.heap H) := fun b o e => hidT_get (KX b o e) (free b fun z => .inl (by rw [← z, e]; simp))
    obtain ⟨mc, c1, c2⟩ := hlim
    have e0 : Env0 P w K mg (hidT s1.heap H) callerA [] s1 H :=
      ⟨rfl, ⟨kb, ns' hns, ⟨mb, ns' hb, hbb⟩, ⟨mc, ns' c1, c2⟩⟩, fun b o e => of_hidT e, Nat.le_of_eq (hidT_size _ _), trivial, (fun b z => nomatch z), hok, AllBare.of_eq hg⟩
    refine codeAny_mono ((F _ kb (ns' hns)).run callerA [] s1 H ⟨[.ref a], []⟩ [.ref a] [.ref a] _ _ hr rfl e0 (hbind s1 (.ref a)) (.cons rfl .nil) (hsp H sq)) fun out s' got => ?_
    match out, got with
    | .ok (.ret u), ⟨v, H', os, bare, un, hok', rv, q⟩ =>
      have q : v = .bl true := q
      subst q
      have rv : u = Value.bool true := rv
      subst rv
      refine ⟨rfl, OldK.of_keep fun b o e => ?_, os, bare⟩
      rcases only b with z | ⟨ob, xs, z⟩
      · exact un.keep b o e z (fun y => by cases y) (by simp)
      · have e1 := (hok b _ z).1
        have e2 := (hok' b _ (un.frzs b ob _ z)).1
        rw [e] at e1
        cases e1
        exact e2
  have rv := vals_ints hi
  cases hk : K.lookup a with
  | some o =>
    have e := KX a o hk
    rw [ha] at e
    cases e
    exact main (fun _ => none) (fun _ => .inl rfl) (.inr ⟨_, us.toArray, _, hk, rfl, rfl, rfl, by rw [List.size_toArray, hi.length]; exact hl, by simpa using rv⟩) (fun _ _ z => nomatch z) fun _ z => (z rfl).elim
  | none =>
    let o : Obj := { cls := .type "list", data := .seq us.toArray }
    refine main (fun b => if b = a then some (.frz o (.lst (ns.map V.int))) else none) (fun b => ?_) (.inl (.inr ⟨o, if_pos rfl⟩)) (fun b u z => ?_) fun b z => ?_
    · by_cases h : b = a
      · exact .inr ⟨o, _, if_pos h⟩
      · exact .inl (if_neg h)
    · by_cases h : b = a
      · subst h
        have z : some (HO.frz o (.lst (ns.map V.int))) = some u := (if_pos rfl).symm.trans z
        cases z
        exact ⟨ha, by rw [List.length_map]; exact hl, us, _, rv, ha⟩
      · exact nomatch (if_neg h).symm.trans z
    · by_cases h : b = a
      · exact ⟨h, hk⟩
      · exact (z (if_neg h)).elim
theorem walk_G {l : PySem.W.OpenLaw} {n k : Nat} {q : Program} {loose : List Str} {XP : (Str → Option Value) → Heap → Prop} {YP : World → Heap → Prop} {d : DefRec} {K : Params → PySem.W.Frag} {sp : World → Sp} {x : Str} (hn : l.most = some n) (hn2 : n ≤ sizeLine) (hdf : d.params.defaults = [])
    (hr : Room k callerA) (hY : ∀ (w : World) (h : Heap), YP w h → (K w.params).In h)
    (F : ∀ (w : World) (mg : Str → Option Value) (fa : Addr) (h : Heap), (K w.params).In h → h.Ns mainGlobals mg → mg d.name = some (.ref fa) →
      ∃ fd : FuncData, (∀ (s : Shared) (u : Value), BindsTo s fd ⟨[u], []⟩ [(x, u)]) ∧ ∀ base : Heap, (K w.params).In base → base.Ns mainGlobals mg → FnG l.prog w (K w.params) mg base k fa fd [x] (sp w))
    (hsp : ∀ (w : World) (H : Hp) (a : Addr) (ns : List Int), ns.length ≤ n → SqL (K w.params) H a (ns.map V.int) → sp w [.ref a] H (fun v _ => v = .bl true) E0) : PySem.W.WalkO q loose XP YP l.row.toRowW d [] (fun f vs => PySem.call f vs) :=
  Att.attach_call hn hdf fun w s0 s1 mg mb fa o pm cd doc a vs ns G Y ho hd hcd hmg hobj hints hlen hg =>
    let ⟨fd, hb, hF⟩ := F w mg fa _ (hY w _ Y) G.T.g hmg
    law_G (hY w _ Y) G.T.g G.T.b G.T.builtins G.T.nolimit hg hobj hints (Nat.le_trans hlen hn2) hr hF hb fun H hS => hsp w H a ns hlen hS
end TM

set_option Elab.async false
set_option linter.all false
set_option maxRecDepth 100000
set_option maxHeartbeats 400000
namespace TM
open PySem PySem.Spec PyProof.Rows L2
section
variable {X : Cx} {cA : CA}
theorem Rws.one {K : PySem.W.Frag} {ρ : List Addr} {F : Hp} {w : W} {vs : List V} (h : Rws K cA ρ F [w] vs) : ∃ v, vs = [v] ∧ Rw K cA ρ F w v := by
  cases h with
  | cons h1 h2 => cases h2; exact ⟨_, rfl, h1⟩
theorem Rws.two {K : PySem.W.Frag} {ρ : List Addr} {F : Hp} {w w' : W} {vs : List V} (h : Rws K cA ρ F [w, w'] vs) : ∃ v v', vs = [v, v'] ∧ Rw K cA ρ F w v ∧ Rw K cA ρ F w' v' := by
  cases h with
  | cons h1 h2 =>
    obtain ⟨v, rfl, r⟩ := h2.one
    exact ⟨_, v, rfl, h1, r⟩
theorem Rw.int' {K : PySem.W.Frag} {ρ : List Addr} {F : Hp} {i : Int} {v : V} (h : Rw K cA ρ F (.d (.int i)) v) : v = .int i := by
  cases h with | d h => cases h; rfl
theorem Rw.bl' {K : PySem.W.Frag} {ρ : List Addr} {F : Hp} {i : Bool} {v : V} (h : Rw K cA ρ F (.d (.bl i)) v) : v = .bl i := by
  cases h with | d h => cases h; rfl
theorem intsD_vals {K : PySem.W.Frag} {F : Hp} : ∀ {ds : List D} {vs : List V} {ns : List Int}, Rls K cA F ds vs → intsD ds = some ns → vs = ns.map V.int
  | _, _, _, .nil, h => by cases h; rfl
  | _, _, _, .cons (d := d) (ds := ds) h1 h2, h => by
    cases h1 with
    | int i =>
      simp only [intsD] at h
      cases q : intsD ds with
      | none => rw [q] at h; cases h
      | some ns =>
        rw [q] at h
        cases h
        rw [intsD_vals h2 q]
        rfl
    | non => cases h
    | bl => cases h
    | str => cases h
    | lst => cases h
    | tup => cases h
    | ins => cases h
theorem boolsD_vals {K : PySem.W.Frag} {F : Hp} : ∀ {ds : List D} {vs : List V} {ns : List Bool}, Rls K cA F ds vs → boolsD ds = some ns → vs = ns.map V.bl
  | _, _, _, .nil, h => by cases h; rfl
  | _, _, _, .cons (d := d) (ds := ds) h1 h2, h => by
    cases h1 with
    | bl i =>
      simp only [boolsD] at h
      cases q : boolsD ds with
      | none => rw [q] at h; cases h
      | some ns =>
        rw [q] at h
        cases h
        rw [boolsD_vals h2 q]
        rfl
    | non => cases h
    | int => cases h
    | str => cases h
    | lst => cases h
    | tup => cases h
    | ins => cases h
/-! ### built-in functions by values -/
theorem cr_len : CallR X (.builtin "len") (rWs X.K cA (biE .len)) := by
  intro pins s σ H xs us Q I r h
  obtain ⟨ρ, ws, S, sm, rw', h⟩ := h
  unfold biE at h
  split at h
  any_goals (first | exact h.elim | (rename_i e; cases e; done) | skip)
  case _ w _ =>
    obtain ⟨v, rfl, rv⟩ := rw'.one
    split at h
    · rename_i ds e
      obtain ⟨a, vs, rfl, h1, h2⟩ := rd_lst sm rv e
      exact L2.call_len pins s σ H _ us Q I r ⟨_, _, rfl, .inl ⟨vs, h1, rfl⟩, by rw [← h2.length]; exact h.here sm (.d (.int _))⟩
    · rename_i ds e
      obtain ⟨a, vs, rfl, h1, h2⟩ := rd_tup sm rv e
      exact L2.call_len pins s σ H _ us Q I r ⟨_, _, rfl, .inr ⟨vs, h1, rfl⟩, by rw [← h2.length]; exact h.here sm (.d (.int _))⟩
    · rename_i x e
      split at h
      · rename_i hl
        have ev := rd_str sm rv e
        subst ev
        exact L2.call_len pins s σ H _ us Q I r ⟨_, _, rfl, ⟨hl, rfl⟩, h.here sm (.d (.int _))⟩
      · exact h.elim
    · exact h.elim
theorem cr_abs' : CallR X (.builtin "abs") (rWs X.K cA (biE .abs)) := by
  intro pins s σ H xs us Q I r h
  obtain ⟨ρ, ws, S, sm, rw', h⟩ := h
  unfold biE at h
  split at h
  any_goals (first | exact h.elim | (rename_i e; cases e; done) | skip)
  case _ i _ =>
    obtain ⟨v, rfl, rv⟩ := rw'.one
    cases rv.int'
    exact L2.call_abs pins s σ H _ us Q I r ⟨i, rfl, h.here sm (.d (.int _))⟩
theorem cr_int' : CallR X (.type "int") (rWs X.K cA (biE .int)) := by
  intro pins s σ H xs us Q I r h
  obtain ⟨ρ, ws, S, sm, rw', h⟩ := h
  unfold biE at h
  split at h
  any_goals (first | exact h.elim | (rename_i e; cases e; done) | skip)
  case _ i _ =>
    obtain ⟨v, rfl, rv⟩ := rw'.one
    cases rv.int'
    exact L2.call_int1 pins s σ H _ us Q I r (.inl ⟨i, rfl, h.here sm (.d (.int _))⟩)
  case _ b _ =>
    obtain ⟨v, rfl, rv⟩ := rw'.one
    cases rv.bl'
    exact L2.call_int1 pins s σ H _ us Q I r (.inr ⟨b, rfl, h.here sm (.d (.int _))⟩)
theorem cr_max' (hc : X.calm = true) : CallR X (.builtin "max") (rWs X.K cA (biE .max)) := by
  intro pins s σ H xs us Q I r h
  obtain ⟨ρ, ws, S, sm, rw', h⟩ := h
  unfold biE at h
  split at h
  any_goals (first | exact h.elim | (rename_i e; cases e; done) | skip)
  case _ i j _ =>
    obtain ⟨v, v', rfl, rv, rv'⟩ := rw'.two
    cases rv.int'
    cases rv'.int'
    exact L2.call_max2 hc pins s σ H _ us Q I r ⟨i, j, rfl, h.here sm (.d (.int _))⟩
theorem cr_min' (hc : X.calm = true) : CallR X (.builtin "min") (rWs X.K cA (biE .min)) := by
  intro pins s σ H xs us Q I r h
  obtain ⟨ρ, ws, S, sm, rw', h⟩ := h
  unfold biE at h
  split at h
  any_goals (first | exact h.elim | (rename_i e; cases e; done) | skip)
  case _ i j _ =>
    obtain ⟨v, v', rfl, rv, rv'⟩ := rw'.two
    cases rv.int'
    cases rv'.int'
    exact L2.call_min2 hc pins s σ H _ us Q I r ⟨i, j, rfl, h.here sm (.d (.int _))⟩
theorem cr_tuple' : CallR X (.type "tuple") (rWs X.K cA (biE .tuple)) := by
  intro pins s σ H xs us Q I r h
  obtain ⟨ρ, ws, S, sm, rw', h⟩ := h
  unfold biE at h
  split at h
  any_goals (first | exact h.elim | (rename_i e; cases e; done) | skip)
  case _ w _ =>
    obtain ⟨v, rfl, rv⟩ := rw'.one
    split at h
    · rename_i ds e
      obtain ⟨a, vs, rfl, h1, h2⟩ := rd_lst sm rv e
      refine L2.call_tuple_of pins s σ H _ us Q I r ⟨a, vs, rfl, .inl ⟨h1, fun l hl => ?_⟩⟩
      obtain ⟨s1, e1, f1⟩ := sm.laid (o := .tup vs) hl
      exact h _ _ _ e1 s1 (.d (.tup (.inl (.inl f1)) (h2.mono e1.same)))
    · rename_i ds e
      obtain ⟨a, vs, rfl, h1, h2⟩ := rd_tup sm rv e
      refine L2.call_tuple_of pins s σ H _ us Q I r ⟨a, vs, rfl, .inr ⟨h1, ?_⟩⟩
      rcases rd_cases sm rv e with ⟨_, q⟩ | ⟨n, xs, a, vs, _, z, _⟩
      · exact h.here sm (.d q)
      · cases z
    · exact h.elim
theorem cr_sum' (hc : X.calm = true) : CallR X (.builtin "sum") (rWs X.K cA (biE .sum)) := by
  intro pins s σ H xs us Q I r h
  obtain ⟨ρ, ws, S, sm, rw', h⟩ := h
  unfold biE at h
  split at h
  any_goals (first | exact h.elim | (rename_i e; cases e; done) | skip)
  case _ w _ =>
    obtain ⟨v, rfl, rv⟩ := rw'.one
    split at h
    · rename_i ds e
      obtain ⟨a, vs, rfl, h1, h2⟩ := rd_lst sm rv e
      split at h
      · rename_i ns e2
        rw [intsD_vals h2 e2] at h1
        exact L2.cr_sum hc pins s σ H _ us Q I r ⟨a, ns, rfl, h1, h.here sm (.d (.int _))⟩
      · exact h.elim
    · exact h.elim
theorem cr_any' (hc : X.calm = true) : CallR X (.builtin "any") (rWs X.K cA (biE .any)) := by
  intro pins s σ H xs us Q I r h
  obtain ⟨ρ, ws, S, sm, rw', h⟩ := h
  unfold biE at h
  split at h
  any_goals (first | exact h.elim | (rename_i e; cases e; done) | skip)
  case _ w _ =>
    obtain ⟨v, rfl, rv⟩ := rw'.one
    split at h
    · rename_i ds e
      obtain ⟨a, vs, rfl, h1, h2⟩ := rd_lst sm rv e
      split at h
      · rename_i ns e2
        rw [boolsD_vals h2 e2] at h1
        exact L2.cr_any hc pins s σ H _ us Q I r ⟨a, ns, rfl, h1, h.here sm (.d (.bl _))⟩
      · exact h.elim
    · exact h.elim
theorem cr_all' (hc : X.calm = true) : CallR X (.builtin "all") (rWs X.K cA (biE .all)) := by
  intro pins s σ H xs us Q I r h
  obtain ⟨ρ, ws, S, sm, rw', h⟩ := h
  unfold biE at h
  split at h
  any_goals (first | exact h.elim | (rename_i e; cases e; done) | skip)
  case _ w _ =>
    obtain ⟨v, rfl, rv⟩ := rw'.one
    split at h
    · rename_i ds e
      obtain ⟨a, vs, rfl, h1, h2⟩ := rd_lst sm rv e
      split at h
      · rename_i ns e2
        rw [boolsD_vals h2 e2] at h1
        exact L2.cr_all hc pins s σ H _ us Q I r ⟨a, ns, rfl, h1, h.here sm (.d (.bl _))⟩
      · exact h.elim
    · exact h.elim
mutual
theorem py_noDict : ∀ {d : D} {e : PyData}, d.py = some e → e.hasDict = false
  | .non, _, h => by cases h; rfl
  | .bl _, _, h => by cases h; rfl
  | .int _, _, h => by cases h; rfl
  | .str _, _, h => by cases h; rfl
  | .lst xs, _, h => by
    simp only [D.py] at h
    cases q : pys xs with
    | none => rw [q] at h; cases h
    | some es =>
      rw [q] at h
      cases h
      simp only [PyData.hasDict]
      exact pys_noDict q
  | .tup xs, _, h => by
    simp only [D.py] at h
    cases q : pys xs with
    | none => rw [q] at h; cases h
    | some es =>
      rw [q] at h
      cases h
      simp only [PyData.hasDict]
      exact pys_noDict q
  | .ins _ _, _, h => by simp only [D.py] at h; cases h
theorem pys_noDict : ∀ {d : List D} {e : List PyData}, pys d = some e → PyData.hasDictAll e = false
  | [], _, h => by cases h; rfl
  | x :: r, _, h => by
    simp only [pys] at h
    cases q1 : x.py with
    | none => rw [q1] at h; cases h
    | some y =>
      cases q2 : pys r with
      | none => rw [q1, q2] at h; cases h
      | some ys =>
        rw [q1, q2] at h
        cases h
        simp only [PyData.hasDictAll, py_noDict q1, pys_noDict q2, Bool.or_false]
end
theorem cr_repr' (hg : X.A.guards = some []) (hu : X.A.units + 64 < cLine) : CallR X (.builtin "repr") (rWs X.K cA (biE .repr)) := by
  intro pins s σ H xs us Q I r h
  obtain ⟨ρ, ws, S, sm, rw', h⟩ := h
  unfold biE at h
  split at h
  any_goals (first | exact h.elim | (rename_i e; cases e; done) | skip)
  case _ w _ =>
    obtain ⟨v, rfl, rv⟩ := rw'.one
    split at h
    · rename_i a e
      split at h
      · rename_i hc
        obtain ⟨u, rfl, ru⟩ := r.one
        have dp := rd_dp sm rv e
        have nd : a.hasDict = false := by
          cases q : rd S w with
          | none => rw [q] at e; cases e
          | some d => rw [q] at e; exact py_noDict e
        obtain ⟨as, rr⟩ := Dp.reads I a v u dp ru
        have fin : ∀ (h' : Heap) (t : Tok) (tk : Nat), (∀ b o, s.heap.get? b = some o → h'.get? b = some o) → EP X pins σ Q (.str a.shown t) { s with heap := h', toks := tk } := fun h' t tk k =>
          ⟨.str a.shown, H, I.kept k, ⟨t, rfl⟩, h.here sm (.d (.str _))⟩
        obtain ⟨h1, h2, h3⟩ := hc
        cases rr with
        | none => exact PySem.P.repr_of_none (fin s.heap _ _ fun _ _ q => q)
        | bool b => exact PySem.P.repr_of_bool (fin s.heap _ _ fun _ _ q => q)
        | int i t => exact PySem.P.repr_of_int (of_decide_eq_true (by simpa [PyData.showable] using h1)) (fin s.heap _ _ fun _ _ q => q)
        | str x t => exact PySem.P.repr_of_str (fin s.heap _ _ fun _ _ q => q) (by simpa [PyData.shown] using h3)
        | list a1 a2 a3 a4 => exact PySem.repr_of_reads' (.list a1 a2 a3 a4) h1 (fun z => by rw [nd] at z; cases z) hg (by omega) (fun _ _ q => q) fin h3
        | tuple a1 a2 a3 a4 => exact PySem.repr_of_reads' (.tuple a1 a2 a3 a4) h1 (fun z => by rw [nd] at z; cases z) hg (by omega) (fun _ _ q => q) fin h3
        | dict a1 a2 a3 a4 a5 => simp only [PyData.hasDict] at nd; cases nd
      · exact h.elim
    · exact h.elim
/-- a new list of the items -/
theorem cr_list' : CallR X (.type "list") (rFs X.K cA (fbE .list)) := by
  intro pins s σ H xs us Q I r h
  obtain ⟨ρ, ws, S, sm, rw', h⟩ := h
  unfold fbE at h
  split at h
  any_goals (first | exact h.elim | (rename_i e; cases e; done) | skip)
  case _ w _ =>
    obtain ⟨v, rfl, rv⟩ := rw'.one
    split at h
    · rename_i ds e
      obtain ⟨a, vs, rfl, h1, h2⟩ := rd_lst sm rv e
      exact L2.call_list_of pins s σ H _ us Q I r ⟨a, vs, rfl, .inl h1, fun l hl => h ρ H vs l (Ext.refl _ _) sm h2 hl⟩
    · rename_i ds e
      obtain ⟨a, vs, rfl, h1, h2⟩ := rd_tup sm rv e
      exact L2.call_list_of pins s σ H _ us Q I r ⟨a, vs, rfl, .inr h1, fun l hl => h ρ H vs l (Ext.refl _ _) sm h2 hl⟩
    · exact h.elim
end
end TM

set_option Elab.async false
set_option linter.all false
set_option maxRecDepth 100000
set_option maxHeartbeats 400000
namespace TM
open PySem PySem.Spec PyProof.Rows L2

def bltNames : List Str := ["len", "abs", "int", "max", "min", "tuple", "sum", "any", "all", "repr", "str", "list", "range", "enumerate", "zip", "isinstance", "bool"]
structure Gd (cA : CA) (gc : Str → Option D) (fs : Str → Bool) (cl : CallO) (n : Nat) (N : List Str) (fn : Str → Bool) (sc : Scope) (X : Cx) : Prop where
  sce : X.env.scope = sc
  kd : sc.kind = .function
  Ne : X.N = N
  nd : N.Nodup
  calm : X.calm = true
  room : Room n X.A
  grd : X.A.guards = some []
  xe : X.xe = fun _ _ => False
  fne : X.fn = fn
  blt : ∀ x ∈ bltNames, X.mg x = none
  fns : ∀ f, fs f = true → ∃ a fd ps, FnG X.prog X.w X.K X.mg X.base n a fd ps (spO X.K cA (cl f)) ∧ X.mg f = some (.ref a) ∧ PySem.W.keepIn X.K (.ref a) = true ∧ Binds X.K fd ps []
  glo : ∀ x d, gc x = some d → ∃ u v, X.mg x = some u ∧ RelV v u ∧ ∀ F, Rl X.K cA F d v
def vis (sc : Scope) (x : Str) : Bool := match sc.names.lookup x with
  | some .local => true
  | some .cell => true
  | some .free => true
  | _ => false
def loc (sc : Scope) (x : Str) : Bool := match sc.names.lookup x with
  | some .local => true
  | some .cell => true
  | _ => false
def glb (sc : Scope) (x : Str) : Bool := match sc.names.lookup x with
  | some .globalImplicit => true
  | _ => false
theorem vis_ok {sc : Scope} {x : Str} (h : vis sc x = true) : Vis sc x := by
  unfold vis at h
  split at h
  · exact .inl (by assumption)
  · exact .inr (.inl (by assumption))
  · exact .inr (.inr (by assumption))
  · cases h
theorem loc_ok {sc : Scope} {x : Str} (h : loc sc x = true) : L2.Loc sc x := by
  unfold loc at h
  split at h
  · exact .inl (by assumption)
  · exact .inr (by assumption)
  · cases h
theorem glb_ok {X : Cx} {sc : Scope} {x : Str} (e : X.env.scope = sc) (h : glb sc x = true) : Gl X x := by
  unfold glb at h
  split at h
  · rename_i q
    show X.env.scope.names.lookup x = _
    rw [e]
    exact q
  · cases h
def dbg (x : Str) : Bool := !(x == ("__debug__" : Str))
theorem dbg_ok {x : Str} (h : dbg x = true) : (x == ("__debug__" : Str)) = false := by
  unfold dbg at h
  simpa using h
def E.args : E → Bool
  | .acons _ _ => true
  | _ => false
def E.isNil : E → Bool
  | .anil => true
  | _ => false
def E.isVar : E → Bool
  | .var _ _ _ => true
  | _ => false
def nmOk (N : List Str) (fn : Str → Bool) (sc : Scope) (i : Nat) (x : Str) : Bool := decide (N[i]? = some x) && loc sc x && (fn x || decide (sc.names.lookup x = some .local))
def G.wf (N : List Str) (fn : Str → Bool) (sc : Scope) : G → Bool
  | .nm i x _ => nmOk N fn sc i x
  | .tp gs _ _ => gs.all fun g => nmOk N fn sc g.1 g.2.1
def G.slots : G → List Nat
  | .nm i _ _ => [i]
  | .tp gs _ _ => gs.map (·.1)
def E.one : E → Bool
  | .acons _ .anil => true
  | _ => false
def E.two : E → Bool
  | .acons _ (.acons _ .anil) => true
  | _ => false
def IK.wf (sc : Scope) (e : E) : IK → Bool
  | .val => true
  | .rng1 _ _ => glb sc "range" && e.one
  | .rng2 _ _ => glb sc "range" && e.two
  | .enu _ _ => glb sc "enumerate" && e.one
  | .zip _ _ => glb sc "zip" && e.two
def G.isTup : G → Bool
  | .nm _ _ _ => false
  | .tp _ _ _ => true
def IK.tup : IK → G → Bool
  | .enu _ _, g => g.isTup
  | .zip _ _, g => g.isTup
  | _, _ => true
def E.wf (N : List Str) (fs : Str → Bool) : Scope → E → Bool
  | sc, .var i x _ => decide (N[i]? = some x) && vis sc x && dbg x && !(x == ("__classdict__" : Str))
  | _, .int _ _ _ => true
  | _, .str _ _ _ => true
  | _, .bl _ _ _ => true
  | _, .non _ _ => true
  | sc, .glo x _ => glb sc x && dbg x
  | sc, .bin _ a b _ => a.wf N fs sc && b.wf N fs sc
  | sc, .neg a _ => a.wf N fs sc
  | sc, .not a _ => a.wf N fs sc
  | sc, .cmp _ a b _ => a.wf N fs sc && b.wf N fs sc
  | sc, .isN _ a _ _ _ => a.wf N fs sc
  | sc, .chn _ _ a b c _ => a.wf N fs sc && b.wf N fs sc && c.wf N fs sc
  | sc, .bop _ as _ => as.wf N fs sc && as.args
  | sc, .ite c a b _ => c.wf N fs sc && a.wf N fs sc && b.wf N fs sc
  | sc, .call f as _ _ => glb sc f && fs f && dbg f && as.wf N fs sc && as.args
  | sc, .bi f as _ _ => glb sc f.nm && as.wf N fs sc && as.args
  | sc, .fb f as _ _ => glb sc f.nm && as.wf N fs sc && as.args
  | sc, .isi a t _ _ _ => glb sc "isinstance" && glb sc t.nm && a.wf N fs sc
  | sc, .ix a b _ => a.wf N fs sc && b.wf N fs sc
  | _, .sl _ _ _ _ _ => true
  | sc, .tup as _ _ => as.wf N fs sc
  | sc, .lst as _ => as.wf N fs sc
  | sc, .rep as b _ _ => as.wf N fs sc && b.wf N fs sc
  | sc, .lc own elt g k it ifs scope _ => it.wf N fs sc && k.wf sc it && k.tup g && blkC N sc scope own && g.wf N (fun x => scope.names.lookup x == some .cell) (relS scope sc) && (g.slots.all fun i => decide (i ∈ own.map (·.2))) && elt.wf N fs (relS scope sc) && ifs.wf N fs (relS scope sc)
  | sc, .mm _ o as pa p => o.wf N fs sc && o.isVar && as.wf N fs sc && as.args && (pa.endLine == p.line) && decide (as.uns.length < 29)
  | _, .no => true
  | _, .anil => true
  | sc, .acons a as => a.wf N fs sc && as.wf N fs sc && (as.args || as.isNil)

/-! ### the shapes of what comes back -/
theorem un_star (a : E) (es : List Expr) (env : Env) : starEach (a.un :: es) env = (false, eval a.un env) :: starEach es env := by cases a <;> rfl
theorem un_mark (o : CmpOp) (b : E) : behindInMarks o b.un = false := by cases b <;> rfl
theorem un_fold (k : IK) (a : E) (env : Env) (x : Value) : foldedSetIterable (k.un a.un a.uns) env x = pure x := by cases k <;> first | rfl | (cases a <;> rfl)
theorem uns_star : ∀ (as : E) (pos : Pos) (env : Env), (backTo pos (starEach as.uns env)).any (·.1) = false
  | .acons a as, pos, env => by
    show (backTo pos (starEach (a.un :: as.uns) env)).any (·.1) = false
    rw [un_star]
    exact uns_star as pos env
  | .anil, _, _ => rfl
  | .no, _, _ => rfl
  | .var .., _, _ => rfl
  | .int .., _, _ => rfl
  | .str .., _, _ => rfl
  | .bl .., _, _ => rfl
  | .non .., _, _ => rfl
  | .glo .., _, _ => rfl
  | .bin .., _, _ => rfl
  | .neg .., _, _ => rfl
  | .not .., _, _ => rfl
  | .cmp .., _, _ => rfl
  | .isN .., _, _ => rfl
  | .chn .., _, _ => rfl
  | .bop .., _, _ => rfl
  | .ite .., _, _ => rfl
  | .call .., _, _ => rfl
  | .bi .., _, _ => rfl
  | .fb .., _, _ => rfl
  | .isi .., _, _ => rfl
  | .ix .., _, _ => rfl
  | .sl .., _, _ => rfl
  | .tup .., _, _ => rfl
  | .lst .., _, _ => rfl
  | .rep .., _, _ => rfl
  | .lc .., _, _ => rfl
  | .mm .., _, _ => rfl

section
variable {X : Cx} {cA : CA} {gc : Str → Option D} {fs : Str → Bool} {cl : CallO} {n : Nat} {N : List Str} {fn : Str → Bool} {sc : Scope}

/-! ### expressions -/
theorem sv_var {i : Nat} {x : Str} {p : Pos} (hN : X.N[i]? = some x) (hv : Vis X.env.scope x) (hd : (x == ("__debug__" : Str)) = false) (hcd : (x == ("__classdict__" : Str)) = false) : PE X (.Name x p) (tE X.K cA (evE cl gc (.var i x p))) := by
  refine PE.weak (pe_var hN hv hd hcd) fun σ H Q h => ?_
  obtain ⟨ρ, τ, S, sm, r, h⟩ := h
  simp only [evE] at h
  split at h
  · rename_i w e
    obtain ⟨v, e1, r1⟩ := r.get e
    exact ⟨v, e1, h.here sm r1⟩
  · exact h.elim
theorem sv_glo {x : Str} {p : Pos} (g : Gd cA gc fs cl n N fn sc X) (hg : Gl X x) (hd : (x == ("__debug__" : Str)) = false) : PE X (.Name x p) (tE X.K cA (evE cl gc (.glo x p))) := by
  refine ⟨fun pins s σ H Q I h => ?_⟩
  obtain ⟨ρ, τ, S, sm, r, h⟩ := h
  simp only [evE] at h
  split at h
  · rename_i d e
    obtain ⟨u, v, e1, e2, e3⟩ := g.glo x d e
    exact (pe_glob hg e1 e2 hd).run pins s σ H Q I (h.here sm (.d (e3 _)))
  · exact h.elim
theorem sv_bin {a b : Expr} {ma mb : EM} {f : W → W → Sto → R W} {o : Operator} {p : Pos} (ho : OpR X (binaryOp o) (rW X.K cA f)) (ha : PE X a (tE X.K cA ma)) (hb : PE X b (tE X.K cA mb)) :
    PE X (.BinOp a o b p) (tE X.K cA fun τ S => (ma τ S).bnd fun x S1 => (mb τ S1).bnd fun y S2 => f x y S2) := by
  refine PE.weak (pe_op ho ha hb) fun σ H Q h => ?_
  obtain ⟨ρ, τ, S, sm, r, h⟩ := h
  refine tE_bnd sm r (P := PostW X.K cA ρ H Q) (fun z => z) h fun w S1 ρ1 H1 v x1 sm1 rw1 r1 h1 => ?_
  refine tE_bnd sm1 r1 (P := PostW X.K cA ρ H Q) (fun z => z) h1 fun w2 S2 ρ2 H2 v2 x2 sm2 rw2 r2 h2 => ?_
  exact ⟨ρ2, w, w2, S2, sm2, rw1.ext x2, rw2, h2.ext (x1.trans x2)⟩
theorem sv_ix {a b : Expr} {ma mb : EM} {p : Pos} (ha : PE X a (tE X.K cA ma)) (hb : PE X b (tE X.K cA mb)) (hs : PlainIx b) : PE X (.Subscript a b p) (tE X.K cA fun τ S => (ma τ S).bnd fun x S1 => (mb τ S1).bnd fun y S2 => ixE x y S2) := by
  refine PE.weak (pe_ix (ix_any (cA := cA)) ha hb hs) fun σ H Q h => ?_
  obtain ⟨ρ, τ, S, sm, r, h⟩ := h
  refine tE_bnd sm r (P := PostW X.K cA ρ H Q) (fun z => z) h fun w S1 ρ1 H1 v x1 sm1 rw1 r1 h1 => ?_
  refine tE_bnd sm1 r1 (P := PostW X.K cA ρ H Q) (fun z => z) h1 fun w2 S2 ρ2 H2 v2 x2 sm2 rw2 r2 h2 => ?_
  exact ⟨ρ2, w, w2, S2, sm2, rw1.ext x2, rw2, h2.ext (x1.trans x2)⟩
theorem sv_cmp {a b : Expr} {ma mb : EM} {o : CmpOp} {p : Pos} (hu : X.A.units + 64 < cLine) (ha : PE X a (tE X.K cA ma)) (hb : PE X b (tE X.K cA mb)) (hm : behindInMarks o b = false) :
    PE X (.Compare a [o] [b] p) (tE X.K cA fun τ S => (ma τ S).bnd fun x S1 => (mb τ S1).bnd fun y S2 => cmpE o x y S2) := by
  refine PE.weak (pe_cmpR (cmp_any (cA := cA) hu o) ha hb hm) fun σ H Q h => ?_
  obtain ⟨ρ, τ, S, sm, r, h⟩ := h
  refine tE_bnd sm r (P := PostW X.K cA ρ H Q) (fun z => z) h fun w S1 ρ1 H1 v x1 sm1 rw1 r1 h1 => ?_
  refine tE_bnd sm1 r1 (P := PostW X.K cA ρ H Q) (fun z => z) h1 fun w2 S2 ρ2 H2 v2 x2 sm2 rw2 r2 h2 => ?_
  exact ⟨ρ2, w, w2, S2, sm2, rw1.ext x2, rw2, h2.ext (x1.trans x2)⟩
/-- a value's truth, from a bool -/
theorem asB_weak {m : EM} {σ : LSt} {H : Hp} {Q : Bool → Hp → Prop} (h : tT X.K cA (fun τ S => asB (m τ S)) σ H Q) : tE X.K cA m σ H fun x H1 => ∃ c, x = .bl c ∧ Q c H1 := by
  obtain ⟨ρ, τ, S, sm, r, h⟩ := h
  refine tE_bnd sm r (P := PostB X.K cA ρ H Q) (fun z => z) h fun w S1 ρ1 H1 v x1 sm1 rw1 r1 h1 => ?_
  cases rw1 with
  | d q =>
    cases q with
    | bl b => exact ⟨b, rfl, h1 _ _ x1 sm1⟩
    | non => exact (show False from h1).elim
    | int => exact (show False from h1).elim
    | str => exact (show False from h1).elim
    | lst => exact (show False from h1).elim
    | tup => exact (show False from h1).elim
    | ins => exact (show False from h1).elim
  | ref q => exact (show False from h1).elim
theorem st_cmp {a b : Expr} {ma mb : EM} {o : CmpOp} {p : Pos} (hu : X.A.units + 64 < cLine) (ha : PE X a (tE X.K cA ma)) (hb : PE X b (tE X.K cA mb)) (hm : behindInMarks o b = false) :
    PT X (.Compare a [o] [b] p) (tT X.K cA fun τ S => asB ((ma τ S).bnd fun x S1 => (mb τ S1).bnd fun y S2 => cmpE o x y S2)) := by
  refine PT.weak (pt_cmpR (cmp_any (cA := cA) hu o) ha hb hm) fun σ H Q h => ?_
  obtain ⟨ρ, τ, S, sm, r, h⟩ := asB_weak h
  refine tE_bnd sm r (P := PostW X.K cA ρ H fun x H1 => ∃ c, x = .bl c ∧ Q c H1) (fun z => z) h fun w S1 ρ1 H1 v x1 sm1 rw1 r1 h1 => ?_
  refine tE_bnd sm1 r1 (P := PostW X.K cA ρ H fun x H1 => ∃ c, x = .bl c ∧ Q c H1) (fun z => z) h1 fun w2 S2 ρ2 H2 v2 x2 sm2 rw2 r2 h2 => ?_
  exact ⟨ρ2, w, w2, S2, sm2, rw1.ext x2, rw2, h2.ext (x1.trans x2)⟩
theorem st_val {e : Expr} {m : EM} (h : PE X e (tE X.K cA m)) (he : ∀ whole, isTrue e X.env whole = (do let v ← whole; standAt e.pos; holding [v] (truthy v))) : PT X e (tT X.K cA fun τ S => asB (m τ S)) :=
  PT.weak (pt_val h he) fun σ H Q q => asB_weak q
theorem sv_args0 : PA X [] (tA X.K cA fun _ S => .ok [] S) := PA.weak pa_nil fun σ H Q h => by
  obtain ⟨ρ, τ, S, sm, r, h⟩ := h
  exact h _ _ _ (Ext.refl _ _) sm .nil
theorem sv_args {a : E} {es : List Expr} {ma : EM} {m : AM} (ha : PE X a.un (tE X.K cA ma)) (hr : PA X es (tA X.K cA m)) : PA X (a.un :: es) (tA X.K cA fun τ S => (ma τ S).bnd fun x S1 => (m τ S1).bnd fun xs S2 => .ok (x :: xs) S2) := by
  refine PA.weak (pa_cons ha hr (un_star a es _)) fun σ H Q h => ?_
  obtain ⟨ρ, τ, S, sm, r, h⟩ := h
  refine tE_bnd sm r (P := PostA X.K cA ρ H Q) (fun z => z) h fun w S1 ρ1 H1 v x1 sm1 rw1 r1 h1 => ?_
  refine tA_bnd sm1 r1 (P := PostA X.K cA ρ H Q) (fun z => z) h1 fun w2 S2 ρ2 H2 v2 x2 sm2 rw2 r2 h2 => ?_
  exact h2 _ _ _ (x1.trans x2) sm2 (.cons (rw1.ext x2) rw2)
theorem dats_rls {K : PySem.W.Frag} {ρ : List Addr} {F : Hp} : ∀ {ws : List W} {vs : List V} {ds : List D}, Rws K cA ρ F ws vs → dats ws = some ds → Rls K cA F ds vs
  | _, _, _, .nil, h => by cases h; exact .nil
  | _, _, _, .cons (ds := ws) (.d r) t, h => by
    simp only [dats] at h
    cases q : dats ws with
    | none => rw [q] at h; cases h
    | some ds =>
      rw [q] at h
      cases h
      exact .cons r (dats_rls t q)
  | _, _, _, .cons (.ref r) t, h => by simp only [dats] at h; cases h
theorem sv_tup {es : List Expr} {m : AM} {k : Nat} {p : Pos} (h : PA X es (tA X.K cA m)) : PE X (.Tuple es k p) (tE X.K cA fun τ S => (m τ S).bnd fun ws S1 => tupE ws S1) := by
  refine PE.weak (pe_tup h) fun σ H Q h => ?_
  obtain ⟨ρ, τ, S, sm, r, h⟩ := h
  refine tA_bnd sm r (P := PostW X.K cA ρ H Q) (fun z => z) h fun ws S1 ρ1 H1 vs x1 sm1 rw1 r1 h1 => ?_
  unfold tupE at h1
  split at h1
  · rename_i ds e
    split at h1
    · rename_i hl
      have q := dats_rls rw1 e
      refine ⟨by rw [← q.length]; exact hl, fun l hp => ?_⟩
      obtain ⟨s2, e2, f2⟩ := sm1.laid (o := .tup vs) hp
      exact h1 _ _ _ (x1.trans e2) s2 (.d (.tup (.inl (.inl f2)) (q.mono e2.same)))
    · exact (show False from h1).elim
  · exact (show False from h1).elim
theorem sf_lst {es : List Expr} {m : AM} {p : Pos} (h : PA X es (tA X.K cA m)) : PE X (.List es p) (tF X.K cA fun τ S => (m τ S).bnd fun ws S1 => lstE ws S1) := by
  refine PE.weak (pe_lst h) fun σ H Q h => ?_
  obtain ⟨ρ, τ, S, sm, r, h⟩ := h
  refine tA_bnd sm r (P := PostF X.K cA ρ H Q) (fun z => z) h fun ws S1 ρ1 H1 vs x1 sm1 rw1 r1 h1 => ?_
  unfold lstE at h1
  split at h1
  · rename_i ds e
    split at h1
    · rename_i hl
      have q := dats_rls rw1 e
      exact ⟨by rw [← q.length]; exact hl, fun l hp => h1 _ _ _ _ x1 sm1 q hp⟩
    · exact (show False from h1).elim
  · exact (show False from h1).elim
/-- a new list, frozen -/
theorem sv_frz {e : Expr} {m : LM} (h : PE X e (tF X.K cA m)) : PE X e (tE X.K cA fun τ S => frzL (m τ S)) := by
  refine PE.weak h fun σ H Q h => ?_
  obtain ⟨ρ, τ, S, sm, r, h⟩ := h
  dsimp only at h
  refine ⟨ρ, τ, S, sm, r, ?_⟩
  cases e : m τ S with
  | bad => rw [e] at h; exact h
  | ok ds S1 =>
    rw [e] at h
    intro ρ' H' vs l x sm1 q hp
    obtain ⟨s2, e2, f2⟩ := sm1.laid (o := .lst vs) hp
    exact h _ _ _ (x.trans e2) s2 (.d (.lst (.inl (.inl f2)) (q.mono e2.same)))
theorem rls_rep {K : PySem.W.Frag} {F : Hp} {ds : List D} {vs : List V} (r : Rls K cA F ds vs) : ∀ n : Nat, Rls K cA F (List.replicate n ds).flatten (List.replicate n vs).flatten
  | 0 => .nil
  | n + 1 => by
    rw [List.replicate_succ, List.replicate_succ, List.flatten_cons, List.flatten_cons]
    exact r.append (rls_rep r n)
theorem sf_rep {a b : Expr} {m : LM} {mb : EM} {p : Pos} (ha : PE X a (tF X.K cA m)) (hb : PE X b (tE X.K cA mb)) : PE X (.BinOp a .Mult b p) (tF X.K cA fun τ S => (m τ S).bnd fun xs S2 => (mb τ S2).bnd fun w S3 => repE xs w S3) := by
  refine PE.weak (pe_op op_rep ha hb) fun σ H Q h => ?_
  obtain ⟨ρ, τ, S, sm, r, h⟩ := h
  dsimp only at h
  refine ⟨ρ, τ, S, sm, r, ?_⟩
  cases e : m τ S with
  | bad => rw [e] at h; exact h
  | ok ds S1 =>
    rw [e] at h
    intro ρ1 H1 vs l x1 sm1 q hp
    obtain ⟨s2, e2, f2⟩ := sm1.laid (o := .lst vs) hp
    refine tE_bnd s2 (r.ext (x1.trans e2)) (P := PostF X.K cA ρ H Q) (fun z => z) h fun w S3 ρ3 H3 v x3 sm3 rw3 r3 h3 => ?_
    unfold repE at h3
    split at h3
    · rename_i j
      split at h3
      · rename_i hc
        cases rw3.int'
        obtain ⟨h1, h2, h4⟩ := hc
        have z := x3.same _ _ f2
        have z2 : H3 l = some (.lst vs) := Fz.sub _ _ _ _ z
        refine ⟨l, j, vs, rfl, rfl, z2, by omega, by omega, by rw [← q.length]; exact h4, fun l2 hp2 => ?_⟩
        exact h3 _ _ _ _ (x1.trans (e2.trans x3)) sm3 (rls_rep ((q.mono e2.same).mono x3.same) _) hp2
      · exact (show False from h3).elim
    · exact (show False from h3).elim
theorem sv_call {a : E} {as : E} {m : AM} {f : Str} {pf p : Pos} (g : Gd cA gc fs cl n N fn sc X) (hg : Gl X f) (hf : fs f = true) (hd : (f == ("__debug__" : Str)) = false) (ha : PA X (a.un :: as.uns) (tA X.K cA m)) :
    PE X (.Call (.Name f pf) (a.un :: as.uns) [] p) (tE X.K cA fun τ S => (m τ S).bnd fun ws S1 => cl f ws S1) := by
  obtain ⟨ad, fd, ps, F, hm, hk, hb⟩ := g.fns f hf
  refine PE.weak (pe_G F g.room g.grd hg hm hk hb ha hd (un_star a _ _) (uns_star as _ _)) fun σ H Q h => ?_
  obtain ⟨ρ, τ, S, sm, r, h⟩ := h
  refine tA_bnd sm r (P := PostW X.K cA ρ H Q) (fun z => z) h fun ws S1 ρ1 H1 vs x1 sm1 rw1 r1 h1 => ?_
  exact ⟨ρ1, ws, S1, sm1, rw1, h1.ext x1⟩
theorem sv_b {a : E} {as : E} {m : AM} {f : List W → Sto → R W} {x : Str} {id : String} {pf p : Pos} (hc : CallR X (.builtin id) (rWs X.K cA f)) (hg : Gl X x) (hm : X.mg x = none) (hv : bootBuiltins x = some (.builtin id)) (hn : x ≠ "__name__") (hd : (x == ("__debug__" : Str)) = false)
    (ha : PA X (a.un :: as.uns) (tA X.K cA m)) : PE X (.Call (.Name x pf) (a.un :: as.uns) [] p) (tE X.K cA fun τ S => (m τ S).bnd fun ws S1 => f ws S1) := by
  refine PE.weak (pe_callB hc hg hm hv ha hn hd (un_star a _ _) (uns_star as _ _)) fun σ H Q h => ?_
  obtain ⟨ρ, τ, S, sm, r, h⟩ := h
  refine tA_bnd sm r (P := PostW X.K cA ρ H Q) (fun z => z) h fun ws S1 ρ1 H1 vs x1 sm1 rw1 r1 h1 => ?_
  exact ⟨ρ1, ws, S1, sm1, rw1, h1.ext x1⟩
theorem sv_ty {a : E} {as : E} {m : AM} {f : List W → Sto → R W} {x : Str} {id : String} {pf p : Pos} (hc : CallR X (.type id) (rWs X.K cA f)) (hg : Gl X x) (hm : X.mg x = none) (hv : bootBuiltins x = some (.type id)) (hn : x ≠ "__name__") (hd : (x == ("__debug__" : Str)) = false)
    (ha : PA X (a.un :: as.uns) (tA X.K cA m)) : PE X (.Call (.Name x pf) (a.un :: as.uns) [] p) (tE X.K cA fun τ S => (m τ S).bnd fun ws S1 => f ws S1) := by
  refine PE.weak (pe_callTy hc hg hm hv ha hn hd (un_star a _ _) (uns_star as _ _)) fun σ H Q h => ?_
  obtain ⟨ρ, τ, S, sm, r, h⟩ := h
  refine tA_bnd sm r (P := PostW X.K cA ρ H Q) (fun z => z) h fun ws S1 ρ1 H1 vs x1 sm1 rw1 r1 h1 => ?_
  exact ⟨ρ1, ws, S1, sm1, rw1, h1.ext x1⟩
theorem sf_ty {a : E} {as : E} {m : AM} {f : List W → Sto → R (List D)} {x : Str} {id : String} {pf p : Pos} (hc : CallR X (.type id) (rFs X.K cA f)) (hg : Gl X x) (hm : X.mg x = none) (hv : bootBuiltins x = some (.type id)) (hn : x ≠ "__name__") (hd : (x == ("__debug__" : Str)) = false)
    (ha : PA X (a.un :: as.uns) (tA X.K cA m)) : PE X (.Call (.Name x pf) (a.un :: as.uns) [] p) (tF X.K cA fun τ S => (m τ S).bnd fun ws S1 => f ws S1) := by
  refine PE.weak (pe_callTy hc hg hm hv ha hn hd (un_star a _ _) (uns_star as _ _)) fun σ H Q h => ?_
  obtain ⟨ρ, τ, S, sm, r, h⟩ := h
  refine tA_bnd sm r (P := PostF X.K cA ρ H Q) (fun z => z) h fun ws S1 ρ1 H1 vs x1 sm1 rw1 r1 h1 => ?_
  exact ⟨ρ1, ws, S1, sm1, rw1, h1.ext x1⟩
theorem sv_bi {a : E} {as : E} {m : AM} {b : Bi} {pf p : Pos} (g : Gd cA gc fs cl n N fn sc X) (hg : Gl X b.nm) (ha : PA X (a.un :: as.uns) (tA X.K cA m)) : PE X (.Call (.Name b.nm pf) (a.un :: as.uns) [] p) (tE X.K cA fun τ S => (m τ S).bnd fun ws S1 => biE b ws S1) := by
  cases b with
  | len => exact sv_b cr_len hg (g.blt _ (by decide +kernel)) (by decide +kernel) (by decide +kernel) (by decide +kernel) ha
  | abs => exact sv_b cr_abs' hg (g.blt _ (by decide +kernel)) (by decide +kernel) (by decide +kernel) (by decide +kernel) ha
  | int => exact sv_ty cr_int' hg (g.blt _ (by decide +kernel)) (by decide +kernel) (by decide +kernel) (by decide +kernel) ha
  | max => exact sv_b (cr_max' g.calm) hg (g.blt _ (by decide +kernel)) (by decide +kernel) (by decide +kernel) (by decide +kernel) ha
  | min => exact sv_b (cr_min' g.calm) hg (g.blt _ (by decide +kernel)) (by decide +kernel) (by decide +kernel) (by decide +kernel) ha
  | tuple => exact sv_ty cr_tuple' hg (g.blt _ (by decide +kernel)) (by decide +kernel) (by decide +kernel) (by decide +kernel) ha
  | sum => exact sv_b (cr_sum' g.calm) hg (g.blt _ (by decide +kernel)) (by decide +kernel) (by decide +kernel) (by decide +kernel) ha
  | any => exact sv_b (cr_any' g.calm) hg (g.blt _ (by decide +kernel)) (by decide +kernel) (by decide +kernel) (by decide +kernel) ha
  | all => exact sv_b (cr_all' g.calm) hg (g.blt _ (by decide +kernel)) (by decide +kernel) (by decide +kernel) (by decide +kernel) ha
  | repr => exact sv_b (cr_repr' g.grd g.room.units) hg (g.blt _ (by decide +kernel)) (by decide +kernel) (by decide +kernel) (by decide +kernel) ha
  | str => exact pe_bad fun τ S => by cases m τ S <;> simp [biE]
end
end TM

set_option Elab.async false
set_option linter.all false
set_option maxRecDepth 100000
set_option maxHeartbeats 400000
namespace TM
open PySem PySem.Spec PyProof.Rows L2
section
variable {X : Cx} {cA : CA} {gc : Str → Option D} {fs : Str → Bool} {cl : CallO} {n : Nat} {N : List Str} {fn : Str → Bool} {sc : Scope}
/-! ### more expressions -/
theorem sv_neg {a : Expr} {ma : EM} {p : Pos} (ha : PE X a (tE X.K cA ma)) : PE X (.UnaryOp .USub a p) (tE X.K cA fun τ S => (ma τ S).bnd fun x S1 => negE x S1) := by
  refine PE.weak (pe_un un_neg ha) fun σ H Q h => ?_
  obtain ⟨ρ, τ, S, sm, r, h⟩ := h
  refine tE_bnd sm r (P := PostW X.K cA ρ H Q) (fun z => z) h fun w S1 ρ1 H1 v x1 sm1 rw1 r1 h1 => ?_
  unfold negE at h1
  split at h1
  · cases rw1.int'
    exact ⟨_, rfl, h1 _ _ _ x1 sm1 (.d (.int _))⟩
  · exact (show False from h1).elim
theorem bnd_asB {r : R W} {f : Bool → Sto → R W} {P : R W → Prop} (hb : ¬ P .bad) (h : P ((asB r).bnd f)) : P (r.bnd fun w S => match w with
    | .d (.bl b) => f b S
    | _ => .bad) := by
  cases r with
  | bad => exact (hb h).elim
  | ok w S =>
    cases w with
    | ref n => exact h
    | d x => cases x <;> exact h
theorem sv_not {a : Expr} {ma : EM} {p : Pos} (ha : PE X a (tE X.K cA ma)) : PE X (.UnaryOp .Not a p) (tE X.K cA fun τ S => (asB (ma τ S)).bnd fun b S1 => .ok (.d (.bl (!b))) S1) := by
  refine PE.weak (pe_not ha) fun σ H Q h => ?_
  obtain ⟨ρ, τ, S, sm, r, h⟩ := h
  have h' := bnd_asB (P := PostW X.K cA ρ H Q) (fun z => z) h
  refine tE_bnd sm r (P := PostW X.K cA ρ H Q) (fun z => z) h' fun w S1 ρ1 H1 v x1 sm1 rw1 r1 h1 => ?_
  split at h1
  · cases rw1.bl'
    exact ⟨_, rfl, h1 _ _ _ x1 sm1 (.d (.bl _))⟩
  · exact (show False from h1).elim
theorem asB_bl (m : R W) (f : Bool → Bool) : asB ((asB m).bnd fun b S1 => .ok (.d (.bl (f b))) S1) = (asB m).bnd fun b S1 => .ok (f b) S1 := by
  cases m with
  | bad => rfl
  | ok w S =>
    cases w with
    | ref n => rfl
    | d x => cases x <;> rfl
theorem st_not {a : Expr} {ma : EM} {p : Pos} (ha : PT X a (tT X.K cA fun τ S => asB (ma τ S))) : PT X (.UnaryOp .Not a p) (tT X.K cA fun τ S => asB ((asB (ma τ S)).bnd fun b S1 => .ok (.d (.bl (!b))) S1)) := by
  refine PT.weak (pt_not ha) fun σ H Q h => ?_
  obtain ⟨ρ, τ, S, sm, r, h⟩ := h
  dsimp only at h
  rw [asB_bl (ma τ S) (fun b => !b)] at h
  exact tT_bnd (m := fun τ S => asB (ma τ S)) sm r (P := PostB X.K cA ρ H Q) (fun z => z) h fun b S1 ρ1 H1 x1 sm1 r1 h1 => h1 _ _ x1 sm1
theorem non_dec {K : PySem.W.Frag} {ρ : List Addr} {F : Hp} {w : W} {v : V} (r : Rw K cA ρ F w v) : (w = .d .non ∧ v = .non) ∨ ((∀ S y, isnE y w S = .ok (.d (.bl !y)) S) ∧ v ≠ .non) := by
  cases r with
  | ref q => exact .inr ⟨fun _ _ => rfl, fun z => nomatch z⟩
  | d q =>
    cases q with
    | non => exact .inl ⟨rfl, rfl⟩
    | bl => exact .inr ⟨fun _ _ => rfl, fun z => nomatch z⟩
    | int => exact .inr ⟨fun _ _ => rfl, fun z => nomatch z⟩
    | str => exact .inr ⟨fun _ _ => rfl, fun z => nomatch z⟩
    | lst => exact .inr ⟨fun _ _ => rfl, fun z => nomatch z⟩
    | tup => exact .inr ⟨fun _ _ => rfl, fun z => nomatch z⟩
    | ins => exact .inr ⟨fun _ _ => rfl, fun z => nomatch z⟩
theorem isN_go {a : Expr} {ma : EM} {y : Bool} {σ : LSt} {H : Hp} {Q : VK} (h : tE X.K cA (fun τ S => (ma τ S).bnd fun x S1 => isnE y x S1) σ H Q) : tE X.K cA ma σ H fun x H1 => Q (.bl (if y = true then decide (x = .non) else !decide (x = .non))) H1 := by
  obtain ⟨ρ, τ, S, sm, r, h⟩ := h
  refine tE_bnd sm r (P := PostW X.K cA ρ H Q) (fun z => z) h fun w S1 ρ1 H1 v x1 sm1 rw1 r1 h1 => ?_
  rcases non_dec rw1 with ⟨rfl, rfl⟩ | ⟨e, ne⟩
  · have q := h1 _ _ _ x1 sm1 (.d (.bl _))
    cases y
    · exact q
    · exact q
  · rw [e] at h1
    have q := h1 _ _ _ x1 sm1 (.d (.bl _))
    rw [decide_eq_false ne]
    cases y
    · exact q
    · exact q
theorem sv_isN {a : Expr} {ma : EM} {y : Bool} {k : Nat} {p1 p : Pos} (ha : PE X a (tE X.K cA ma)) : PE X (.Compare a [isnOp y] [.Constant .none k p1] p) (tE X.K cA fun τ S => (ma τ S).bnd fun x S1 => isnE y x S1) := by
  cases y with
  | true => exact PE.weak (pe_cmp (pc_isN ha) rfl) fun σ H Q h => isN_go (a := a) h
  | false => exact PE.weak (pe_cmp (pc_notN ha) rfl) fun σ H Q h => isN_go (a := a) h
theorem st_isN {a : Expr} {ma : EM} {y : Bool} {k : Nat} {p1 p : Pos} (ha : PE X a (tE X.K cA ma)) : PT X (.Compare a [isnOp y] [.Constant .none k p1] p) (tT X.K cA fun τ S => asB ((ma τ S).bnd fun x S1 => isnE y x S1)) := by
  cases y with
  | true => exact PT.weak (pt_cmp (pc_isN ha) rfl) fun σ H Q h => isN_go (a := a) (asB_weak h)
  | false => exact PT.weak (pt_cmp (pc_notN ha) rfl) fun σ H Q h => isN_go (a := a) (asB_weak h)
theorem sv_ite {c a b : Expr} {mc : BM} {ma mb : EM} {p : Pos} (hc : PT X c (tT X.K cA mc)) (ha : PE X a (tE X.K cA ma)) (hb : PE X b (tE X.K cA mb)) : PE X (.IfExp c a b p) (tE X.K cA fun τ S => (mc τ S).bnd fun k S1 => if k = true then ma τ S1 else mb τ S1) := by
  refine PE.weak (pe_ifExp hc ha hb) fun σ H Q h => ?_
  obtain ⟨ρ, τ, S, sm, r, h⟩ := h
  refine tT_bnd sm r (P := PostW X.K cA ρ H Q) (fun z => z) h fun k S1 ρ1 H1 x1 sm1 r1 h1 => ?_
  cases k with
  | true => exact ⟨ρ1, τ, S1, sm1, r1, h1.ext x1⟩
  | false => exact ⟨ρ1, τ, S1, sm1, r1, h1.ext x1⟩
/-- .. as a test -/
theorem st_ite {c a b : Expr} {mc : BM} {ma mb : EM} {p : Pos} (hc : PT X c (tT X.K cA mc)) (ha : PT X a (tT X.K cA fun τ S => asB (ma τ S))) (hb : PT X b (tT X.K cA fun τ S => asB (mb τ S))) :
    PT X (.IfExp c a b p) (tT X.K cA fun τ S => asB ((mc τ S).bnd fun k S1 => if k = true then ma τ S1 else mb τ S1)) := by
  refine ⟨fun pins s σ H Q I h => ?_⟩
  obtain ⟨ρ, τ, S, sm, r, h⟩ := h
  have h' : PostB X.K cA ρ H Q ((mc τ S).bnd fun k S1 => if k = true then asB (ma τ S1) else asB (mb τ S1)) := by
    dsimp only at h
    cases q : mc τ S with
    | bad => rw [q] at h; exact h
    | ok k S1 => rw [q] at h; cases k <;> exact h
  have go : tT X.K cA mc σ H fun k H1 => if k = true then tT X.K cA (fun τ S => asB (ma τ S)) σ H1 Q else tT X.K cA (fun τ S => asB (mb τ S)) σ H1 Q := by
    refine tT_bnd sm r (P := PostB X.K cA ρ H Q) (fun z => z) h' fun k S1 ρ1 H1 x1 sm1 r1 h1 => ?_
    cases k with
    | true => exact ⟨ρ1, τ, S1, sm1, r1, h1.ext x1⟩
    | false => exact ⟨ρ1, τ, S1, sm1, r1, h1.ext x1⟩
  refine wpAny_bind (thn (hc.run pins s σ H _ I go) fun k s1 q => ?_)
  obtain ⟨H1, I1, q⟩ := q
  cases k with
  | true => exact ha.run pins s1 σ H1 Q I1 q
  | false => exact hb.run pins s1 σ H1 Q I1 q
noncomputable def chnE (o o2 : CmpOp) (ma mb mc : EM) : EM := fun τ S => (ma τ S).bnd fun x S1 => (mb τ S1).bnd fun y S2 => (asB (cmpE o x y S2)).bnd fun k S3 => if k = true then (mc τ S3).bnd fun z S4 => cmpE o2 y z S4 else .ok (.d (.bl false)) S3
theorem chn_go {ma mb mc : EM} {o o2 : CmpOp} {σ : LSt} {H : Hp} {Q : VK} (h : tE X.K cA (chnE o o2 ma mb mc) σ H Q) : tChain (rW X.K cA (cmpE o)) (rW X.K cA (cmpE o2)) (tE X.K cA ma) (tE X.K cA mb) (tE X.K cA mc) σ H Q := by
  obtain ⟨ρ, τ, S, sm, r, h⟩ := h
  unfold chnE at h
  refine tE_bnd sm r (P := PostW X.K cA ρ H Q) (fun z => z) h fun w S1 ρ1 H1 v x1 sm1 rw1 r1 h1 => ?_
  refine tE_bnd sm1 r1 (P := PostW X.K cA ρ H Q) (fun z => z) h1 fun w2 S2 ρ2 H2 v2 x2 sm2 rw2 r2 h2 => ?_
  refine ⟨ρ2, w, w2, S2, sm2, rw1.ext x2, rw2, ?_⟩
  have h3 := bnd_asB (P := PostW X.K cA ρ H Q) (fun z => z) h2
  cases q : cmpE o w w2 S2 with
  | bad => rw [q] at h3; exact h3
  | ok w3 S3 =>
    rw [q] at h3
    intro ρ3 H3 v3 x3 sm3 rw3
    simp only [R.bnd_ok] at h3
    split at h3
    · cases rw3.bl'
      refine ⟨_, rfl, ?_⟩
      split at h3
      · rename_i hk
        subst hk
        rw [if_pos rfl]
        refine tE_bnd sm3 (r2.ext x3) (P := PostW X.K cA ρ H Q) (fun z => z) h3 fun w4 S4 ρ4 H4 v4 x4 sm4 rw4 r4 h4 => ?_
        exact ⟨ρ4, w2, w4, S4, sm4, (rw2.ext x3).ext x4, rw4, h4.ext (((x1.trans x2).trans x3).trans x4)⟩
      · rename_i hk
        rw [if_neg hk]
        exact h3 _ _ _ ((x1.trans x2).trans x3) sm3 (.d (.bl _))
    · exact (show False from h3).elim
theorem sv_chn {a b c : Expr} {ma mb mc : EM} {o o2 : CmpOp} {p : Pos} (hu : X.A.units + 64 < cLine) (ha : PE X a (tE X.K cA ma)) (hb : PE X b (tE X.K cA mb)) (hc : PE X c (tE X.K cA mc)) (hm : lastMarks [o, o2] [b, c] = false) : PE X (.Compare a [o, o2] [b, c] p) (tE X.K cA (chnE o o2 ma mb mc)) :=
  PE.weak (pe_chain (cmp_any (cA := cA) hu o) (cmp_any (cA := cA) hu o2) ha hb hc hm) fun σ H Q h => chn_go h
theorem st_chn {a b c : Expr} {ma mb mc : EM} {o o2 : CmpOp} {p : Pos} (hu : X.A.units + 64 < cLine) (ha : PE X a (tE X.K cA ma)) (hb : PE X b (tE X.K cA mb)) (hc : PE X c (tE X.K cA mc)) (hm : lastMarks [o, o2] [b, c] = false) : PT X (.Compare a [o, o2] [b, c] p) (tT X.K cA fun τ S => asB (chnE o o2 ma mb mc τ S)) :=
  PT.weak (pt_chain (cmp_any (cA := cA) hu o) (cmp_any (cA := cA) hu o2) ha hb hc hm) fun σ H Q h => chn_go (asB_weak h)
/-! ### isinstance, methods of lists -/
def Ty.id : Ty → String
  | .int => "int" | .bool => "bool" | .str => "str" | .list => "list" | .tuple => "tuple"
theorem ty_boot' (t : Ty) : bootBuiltins t.nm = some (.type t.id) := by cases t <;> decide +kernel
theorem sqL_ty {K : PySem.W.Frag} {H : Hp} {a : Addr} {vs : List V} (h : SqL K H a vs) : TyX K H (.ref a) (.type "list") := by
  rcases h with (h | ⟨o, h⟩) | ⟨o, its, n, e, c, _⟩
  · exact .base (.lst h)
  · exact .base (.frz h)
  · exact .kList e c
theorem sqT_ty {K : PySem.W.Frag} {H : Hp} {a : Addr} {vs : List V} (h : SqT K H a vs) : TyX K H (.ref a) (.type "tuple") := by
  rcases h with (h | ⟨o, h⟩) | ⟨o, its, n, e, c, _⟩
  · exact .base (.tup h)
  · exact .fTuple h
  · exact .kTuple e c
theorem isi_ty {ρ : List Addr} {H : Hp} {S : Sto} {w : W} {v : V} {t : Ty} {Q : VK} (sm : Sm X.K cA ρ S H) (r : Rw X.K cA ρ (Fz ρ H) w v) (h : PostW X.K cA ρ H Q (isiE t w S)) :
    ∃ (a : String) (b : Bool), TyX X.K H v (.type a) ∧ kitB a t.id = some b ∧ Q (.bl b) H := by
  cases hd : rd S w with
  | none => simp only [isiE, hd] at h; exact (show False from h).elim
  | some d =>
    cases d with
    | non =>
      have ev := rd_non sm r hd
      subst ev
      cases t <;> (simp only [isiE, hd] at h; exact ⟨"NoneType", _, .base .non, by decide +kernel, h.here sm (.d (.bl _))⟩)
    | bl b =>
      have ev := rd_bl sm r hd
      subst ev
      cases t <;> (simp only [isiE, hd] at h; exact ⟨"bool", _, .base (.bl _), by decide +kernel, h.here sm (.d (.bl _))⟩)
    | int i =>
      have ev := rd_int sm r hd
      subst ev
      cases t <;> (simp only [isiE, hd] at h; exact ⟨"int", _, .base (.int _), by decide +kernel, h.here sm (.d (.bl _))⟩)
    | str i =>
      have ev := rd_str sm r hd
      subst ev
      cases t <;> (simp only [isiE, hd] at h; exact ⟨"str", _, .base (.str _), by decide +kernel, h.here sm (.d (.bl _))⟩)
    | lst ds =>
      obtain ⟨a, vs, rfl, h1, h2⟩ := rd_lst sm r hd
      cases t <;> (simp only [isiE, hd] at h; exact ⟨"list", _, sqL_ty h1, by decide +kernel, h.here sm (.d (.bl _))⟩)
    | tup ds =>
      obtain ⟨a, vs, rfl, h1, h2⟩ := rd_tup sm r hd
      cases t <;> (simp only [isiE, hd] at h; exact ⟨"tuple", _, sqT_ty h1, by decide +kernel, h.here sm (.d (.bl _))⟩)
    | ins c f => simp only [isiE, hd] at h; exact (show False from h).elim
theorem sv_isi {a : E} {ma : EM} {t : Ty} {pf pt p : Pos} (g : Gd cA gc fs cl n N fn sc X) (hg : Gl X "isinstance") (ht : Gl X t.nm) (ha : PE X a.un (tE X.K cA ma)) :
    PE X (.Call (.Name "isinstance" pf) [a.un, .Name t.nm pt] [] p) (tE X.K cA fun τ S => (ma τ S).bnd fun x S1 => isiE t x S1) := by
  have hT : PE X (.Name t.nm pt) (tC (.ty t.id)) := pe_bltn ht (g.blt _ (by cases t <;> decide +kernel)) (ty_boot' t) rfl (by cases t <;> decide +kernel) (by cases t <;> decide +kernel)
  refine PE.weak (pe_callB call_isi hg (g.blt _ (by decide +kernel)) (by decide +kernel) (pa_cons ha (pa_cons hT pa_nil) (un_star a _ _)) (by decide +kernel) (by decide +kernel) (un_star a _ _)) fun σ H Q h => ?_
  obtain ⟨ρ, τ, S, sm, r, h⟩ := h
  refine tE_bnd sm r (P := PostW X.K cA ρ H Q) (fun z => z) h fun w S1 ρ1 H1 v x1 sm1 rw1 r1 h1 => ?_
  obtain ⟨b, k, h2, h3, h4⟩ := isi_ty sm1 rw1 (PostW.ext x1 h1)
  exact ⟨v, .ty t.id, _, _, k, rfl, .ty _, h2, kit_ty h3, h4⟩
/-- x.append(y), x.pop(i): x a list of the store -/
def rMm (K : PySem.W.Frag) (cA : CA) (m : Mm) : V → List V → Hp → VK → Prop := fun x vs H Q => ∃ ρ w ws S, Sm K cA ρ S H ∧ Rw K cA ρ (Fz ρ H) w x ∧ Rws K cA ρ (Fz ρ H) ws vs ∧ PostW K cA ρ H Q (mmE m w ws S)
theorem mm_append : MtR X "list.append" (rMm X.K cA .append) := by
  intro pins s σ H x vs v us Q I rx rv h
  obtain ⟨ρ, w, ws, S, sm, rw', rws, h⟩ := h
  unfold mmE at h
  split at h
  any_goals (first | exact (show False from h).elim | (rename_i e; cases e; done) | skip)
  case _ k y _ =>
    cases rw' with | ref ea => ?_
    rename_i a
    obtain ⟨v1, rfl, r1⟩ := rws.one
    cases r1 with | d r1 => ?_
    split at h
    · rename_i xs e
      obtain ⟨vs, h1, h2⟩ := sm.ob _ _ _ e ea
      split at h
      · rename_i hl
        refine L2.mt_append pins s σ H _ _ v us Q I rx rv ⟨a, vs, v1, rfl, rfl, h1, by rw [← h2.length]; exact hl, ?_⟩
        obtain ⟨s2, e2⟩ := sm.write (n := k) (ob := .lst (xs ++ [y])) (o := .lst (vs ++ [v1])) ea ⟨_, upd_same, h2.append (.cons r1 .nil)⟩
        exact h _ _ _ e2 s2 (.d .non)
      · exact (show False from h).elim
    · exact (show False from h).elim
theorem mm_pop : MtR X "list.pop" (rMm X.K cA .pop) := by
  intro pins s σ H x vs v us Q I rx rv h
  obtain ⟨ρ, w, ws, S, sm, rw', rws, h⟩ := h
  unfold mmE at h
  split at h
  any_goals (first | exact (show False from h).elim | (rename_i e; cases e; done) | skip)
  case _ k i _ =>
    cases rw' with | ref ea => ?_
    rename_i a
    obtain ⟨v1, rfl, r1⟩ := rws.one
    cases r1.int'
    split at h
    · rename_i xs e
      obtain ⟨vs, h1, h2⟩ := sm.ob _ _ _ e ea
      split at h
      · rename_i hi
        split at h
        · rename_i y ey
          obtain ⟨z, ez, rz⟩ := h2.get ey
          have hlt : i.toNat < xs.length := (List.getElem?_eq_some_iff.mp ey).1
          have hix : seqIndex? i vs.length = some i.toNat := by
            rw [← h2.length]
            unfold seqIndex?
            have h0 : ¬ i < 0 := by omega
            have h3 : 0 ≤ i ∧ i < (xs.length : Int) := by omega
            simp [h0, h3]
          refine L2.mt_popAt pins s σ H _ _ v us Q I rx rv ⟨a, vs, i, i.toNat, z, rfl, rfl, h1, by omega, by omega, hix, ez, ?_⟩
          obtain ⟨s2, e2⟩ := sm.write (n := k) (ob := .lst (xs.eraseIdx i.toNat)) (o := .lst (vs.eraseIdx i.toNat)) ea ⟨_, upd_same, h2.eraseIdx _⟩
          exact h _ _ _ e2 s2 (.d (rz.mono e2.same))
        · exact (show False from h).elim
      · exact (show False from h).elim
    · exact (show False from h).elim

end
end TM

set_option Elab.async false
set_option linter.all false
set_option maxRecDepth 100000
set_option maxHeartbeats 400000
namespace TM
open PySem PySem.Spec PyProof.Rows L2
/-! ### what is walked -/
structure Wk (K : PySem.W.Frag) (cA : CA) (J : It) (gd : Sto → Prop) (ds : List D) (ρ1 : List Addr) (H1 : Hp) : Prop where
  stop : ∀ ρ H S, Ext ρ1 H1 ρ H → Sm K cA ρ S H → gd S → ∀ i, ds.length ≤ i → J.stop i H
  go : ∀ ρ H S, Ext ρ1 H1 ρ H → Sm K cA ρ S H → gd S → ∀ i d, ds[i]? = some d → J.go i H
  yld : ∀ ρ H S, Ext ρ1 H1 ρ H → Sm K cA ρ S H → gd S → ∀ i d x H', ds[i]? = some d → J.yld i H x H' → Sm K cA ρ S H' ∧ Ext ρ H ρ H' ∧ Rl K cA (Fz ρ H') d x
def PostI (K : PySem.W.Frag) (cA : CA) (ρ : List Addr) (H : Hp) (Q : It → Hp → Prop) : R Iv → Prop
  | .ok iv S' => ∀ ρ' H' J, Ext ρ H ρ' H' → Sm K cA ρ' S' H' → Wk K cA J iv.gd iv.ds ρ' H' → Q J H'
  | .bad => False
def tI (K : PySem.W.Frag) (cA : CA) (m : Sg → Sto → R Iv) : TI := fun σ H Q => ∃ ρ τ S, Sm K cA ρ S H ∧ Ros K cA ρ (Fz ρ H) τ σ ∧ PostI K cA ρ H Q (m τ S)
section
variable {X : Cx} {cA : CA} {gc : Str → Option D} {fs : Str → Bool} {cl : CallO} {n : Nat} {N : List Str} {fn : Str → Bool} {sc : Scope}
theorem PIweak {tg e : Expr} {t t' : TI} (h : PI X tg e t) (w : ∀ σ H Q, t' σ H Q → t σ H Q) : PI X tg e t' := ⟨fun pins s σ H Q I q => h.run pins s σ H Q I (w σ H Q q)⟩
theorem PIor {tg e : Expr} {t t' : TI} (h : PI X tg e t) (h' : PI X tg e t') : PI X tg e (fun σ H Q => t σ H Q ∨ t' σ H Q) := ⟨fun pins s σ H Q I q => q.elim (h.run pins s σ H Q I) (h'.run pins s σ H Q I)⟩
/-- a frozen list, tuple -/
theorem wk_lst {K : PySem.W.Frag} {ρ1 : List Addr} {H1 : Hp} {a : Addr} {vs : List V} {ds : List D} (h1 : SqL K (Fz ρ1 H1) a vs) (h2 : Rls K cA (Fz ρ1 H1) ds vs) : Wk K cA (Itl K a) (fun _ => True) ds ρ1 H1 where
  stop := fun ρ H S x s _ i hi => ⟨vs, (Fz.sub _ _).seq (x.same.seq h1), by rw [← h2.length]; exact hi⟩
  go := fun ρ H S x s _ i d e => by
    obtain ⟨v, ev, _⟩ := h2.get e
    exact ⟨vs, v, (Fz.sub _ _).seq (x.same.seq h1), ev⟩
  yld := fun ρ H S x s _ i d y H' e q => by
    obtain ⟨rfl, q⟩ := q
    obtain ⟨v, ev, r⟩ := h2.get e
    have := q vs ((Fz.sub _ _).seq (x.same.seq h1))
    rw [ev] at this
    cases this
    exact ⟨s, Ext.refl _ _, r.mono x.same⟩
theorem wk_tup {K : PySem.W.Frag} {ρ1 : List Addr} {H1 : Hp} {a : Addr} {vs : List V} {ds : List D} (h1 : SqT K (Fz ρ1 H1) a vs) (h2 : Rls K cA (Fz ρ1 H1) ds vs) : Wk K cA (Itt K a) (fun _ => True) ds ρ1 H1 where
  stop := fun ρ H S x s _ i hi => ⟨vs, SqT.mono (Fz.sub _ _) (SqT.mono x.same h1), by rw [← h2.length]; exact hi⟩
  go := fun ρ H S x s _ i d e => by
    obtain ⟨v, ev, _⟩ := h2.get e
    exact ⟨vs, v, SqT.mono (Fz.sub _ _) (SqT.mono x.same h1), ev⟩
  yld := fun ρ H S x s _ i d y H' e q => by
    obtain ⟨rfl, q⟩ := q
    obtain ⟨v, ev, r⟩ := h2.get e
    have := q vs (SqT.mono (Fz.sub _ _) (SqT.mono x.same h1))
    rw [ev] at this
    cases this
    exact ⟨s, Ext.refl _ _, r.mono x.same⟩
/-- a list of the store, while it stands -/
theorem wk_ref {K : PySem.W.Frag} {ρ1 : List Addr} {H1 : Hp} {a : Addr} {k : Nat} {ds : List D} (ha : ρ1[k]? = some a) : Wk K cA (Itl K a) (fun S => S[k]? = some (.lst ds)) ds ρ1 H1 where
  stop := fun ρ H S x s g i hi => by
    obtain ⟨vs, e, r⟩ := s.ob _ _ _ g (pre_get x.pre ha)
    exact ⟨vs, .inl (.inl e), by rw [← r.length]; exact hi⟩
  go := fun ρ H S x s g i d e => by
    obtain ⟨vs, e', r⟩ := s.ob _ _ _ g (pre_get x.pre ha)
    obtain ⟨v, ev, _⟩ := r.get e
    exact ⟨vs, v, .inl (.inl e'), ev⟩
  yld := fun ρ H S x s g i d y H' e q => by
    obtain ⟨rfl, q⟩ := q
    obtain ⟨vs, e', r⟩ := s.ob _ _ _ g (pre_get x.pre ha)
    obtain ⟨v, ev, rv⟩ := r.get e
    have := q vs (.inl (.inl e'))
    rw [ev] at this
    cases this
    exact ⟨s, Ext.refl _ _, rv⟩
theorem rngL_len (i : Int) (n : Nat) : (rngL i n).length = n := by simp [rngL]
theorem rngL_get {i : Int} {n k : Nat} {d : D} (h : (rngL i n)[k]? = some d) : k < n ∧ d = .int (i + (k : Nat)) := by
  unfold rngL at h
  rw [List.getElem?_map] at h
  by_cases hk : k < n
  · rw [List.getElem?_range hk] at h
    cases h
    exact ⟨hk, rfl⟩
  · rw [List.getElem?_eq_none (by simpa using hk)] at h
    cases h
theorem wk_rng {K : PySem.W.Frag} {ρ1 : List Addr} {H1 : Hp} (lo : Int) (n : Nat) : Wk K cA (Itr lo n) (fun _ => True) (rngL lo n) ρ1 H1 where
  stop := fun ρ H S x s _ i hi => by rw [rngL_len] at hi; exact hi
  go := fun ρ H S x s _ i d e => (rngL_get e).1
  yld := fun ρ H S x s _ i d y H' e q => by
    obtain ⟨rfl, rfl⟩ := q
    obtain ⟨_, rfl⟩ := rngL_get e
    exact ⟨s, Ext.refl _ _, .int _⟩
theorem enuL_len : ∀ (k : Nat) (ds : List D), (enuL k ds).length = ds.length
  | _, [] => rfl
  | k, d :: ds => by simp [enuL, enuL_len (k + 1) ds]
theorem enuL_get : ∀ {k : Nat} {ds : List D} {i : Nat} {e : D}, (enuL k ds)[i]? = some e → ∃ d, ds[i]? = some d ∧ e = .tup [.int ((k + i : Nat)), d]
  | _, [], _, _, h => by simp [enuL] at h
  | k, d :: ds, 0, e, h => by simp [enuL] at h; exact ⟨d, rfl, h.symm⟩
  | k, d :: ds, i + 1, e, h => by
    simp only [enuL, List.getElem?_cons_succ] at h
    obtain ⟨x, h1, h2⟩ := enuL_get h
    exact ⟨x, by simpa using h1, by rw [h2, show k + 1 + i = k + (i + 1) by omega]⟩
theorem zipL_get : ∀ {as bs : List D} {i : Nat} {e : D}, (zipL as bs)[i]? = some e → ∃ a b, as[i]? = some a ∧ bs[i]? = some b ∧ e = .tup [a, b]
  | [], _, _, _, h => by simp [zipL] at h
  | _ :: _, [], _, _, h => by simp [zipL] at h
  | a :: as, b :: bs, 0, e, h => by simp [zipL] at h; exact ⟨a, b, rfl, rfl, h.symm⟩
  | a :: as, b :: bs, i + 1, e, h => by
    simp only [zipL, List.getElem?_cons_succ] at h
    obtain ⟨x, y, h1, h2, h3⟩ := zipL_get h
    exact ⟨x, y, by simpa using h1, by simpa using h2, h3⟩
theorem zipL_len : ∀ (as bs : List D), (zipL as bs).length = min as.length bs.length
  | [], _ => by simp [zipL]
  | _ :: _, [] => by simp [zipL]
  | a :: as, b :: bs => by simp [zipL, zipL_len as bs]
theorem wk_enu {K : PySem.W.Frag} {ρ1 : List Addr} {H1 : Hp} {a : Addr} {vs : List V} {ds : List D} (h1 : SqL K (Fz ρ1 H1) a vs) (h2 : Rls K cA (Fz ρ1 H1) ds vs) : Wk K cA (Ite K a) (fun _ => True) (enuL 0 ds) ρ1 H1 where
  stop := fun ρ H S x s _ i hi => ⟨vs, (Fz.sub _ _).seq (x.same.seq h1), by rw [enuL_len] at hi; rw [← h2.length]; exact hi⟩
  go := fun ρ H S x s _ i d e => by
    obtain ⟨d', e', _⟩ := enuL_get e
    obtain ⟨v, ev, _⟩ := h2.get e'
    exact ⟨vs, v, (Fz.sub _ _).seq (x.same.seq h1), ev⟩
  yld := fun ρ H S x s _ i d y H' e q => by
    obtain ⟨T, z, rfl, nT, rfl, q⟩ := q
    obtain ⟨d', e', rfl⟩ := enuL_get e
    obtain ⟨v, ev, r⟩ := h2.get e'
    have := q vs ((Fz.sub _ _).seq (x.same.seq h1))
    rw [ev] at this
    cases this
    obtain ⟨s2, e2, f2⟩ := s.laid (o := .tup [.int (i : Nat), z]) nT
    refine ⟨s2, e2, .tup (.inl (.inl f2)) (.cons ?_ (.cons ((r.mono x.same).mono e2.same) .nil))⟩
    rw [Nat.zero_add]
    exact .int _
theorem wk_zip {K : PySem.W.Frag} {ρ1 : List Addr} {H1 : Hp} {a b : Addr} {vs us : List V} {ds es : List D} (h1 : SqL K (Fz ρ1 H1) a vs) (h2 : Rls K cA (Fz ρ1 H1) ds vs) (h3 : SqL K (Fz ρ1 H1) b us) (h4 : Rls K cA (Fz ρ1 H1) es us) : Wk K cA (Itz K a b) (fun _ => True) (zipL ds es) ρ1 H1 where
  stop := fun ρ H S x s _ i hi => ⟨vs, us, (Fz.sub _ _).seq (x.same.seq h1), (Fz.sub _ _).seq (x.same.seq h3), by rw [zipL_len] at hi; rw [← h2.length, ← h4.length]; omega⟩
  go := fun ρ H S x s _ i d e => by
    obtain ⟨d1, d2, e1, e2, _⟩ := zipL_get e
    obtain ⟨v, ev, _⟩ := h2.get e1
    obtain ⟨u, eu, _⟩ := h4.get e2
    exact ⟨vs, us, v, u, (Fz.sub _ _).seq (x.same.seq h1), (Fz.sub _ _).seq (x.same.seq h3), ev, eu⟩
  yld := fun ρ H S x s _ i d y H' e q => by
    obtain ⟨T, z, z2, rfl, nT, rfl, q, q2⟩ := q
    obtain ⟨d1, d2, e1, e2, rfl⟩ := zipL_get e
    obtain ⟨v, ev, r⟩ := h2.get e1
    obtain ⟨u, eu, r'⟩ := h4.get e2
    have w1 := q vs ((Fz.sub _ _).seq (x.same.seq h1))
    rw [ev] at w1
    cases w1
    have w2 := q2 us ((Fz.sub _ _).seq (x.same.seq h3))
    rw [eu] at w2
    cases w2
    obtain ⟨s2, e2, f2⟩ := s.laid (o := .tup [z, z2]) nT
    exact ⟨s2, e2, .tup (.inl (.inl f2)) (.cons ((r.mono x.same).mono e2.same) (.cons ((r'.mono x.same).mono e2.same) .nil))⟩
theorem si_val {tg e : Expr} {m : EM} (h : PE X e (tE X.K cA m)) : PI X tg e (tI X.K cA fun τ S => (m τ S).bnd fun w S1 => valI w S1) := by
  refine PIweak (PIor (pi_list h) (pi_tup h)) fun σ H Q q => ?_
  obtain ⟨ρ, τ, S, sm, r, q⟩ := q
  dsimp only at q
  cases e : m τ S with
  | bad => rw [e] at q; exact (show False from q).elim
  | ok w S1 =>
    rw [e] at q
    have q : PostI X.K cA ρ H Q (valI w S1) := q
    cases w with
    | ref k =>
      simp only [valI] at q
      split at q
      · rename_i ds f
        refine .inl ⟨ρ, τ, S, sm, r, ?_⟩
        rw [e]
        intro ρ1 H1 v x sm1 rv
        cases rv with | ref ea => ?_
        rename_i a
        obtain ⟨vs, h1, h2⟩ := sm1.ob _ _ _ f ea
        exact ⟨a, rfl, ⟨vs, .inl (.inl h1)⟩, q _ _ _ x sm1 (wk_ref ea)⟩
      · exact (show False from q).elim
    | d x =>
      cases x with
      | lst ds =>
        refine .inl ⟨ρ, τ, S, sm, r, ?_⟩
        rw [e]
        intro ρ1 H1 v x sm1 rv
        cases rv with | d rv => ?_
        cases rv with | lst h1 h2 => ?_
        exact ⟨_, rfl, ⟨_, (Fz.sub _ _).seq h1⟩, q _ _ _ x sm1 (wk_lst h1 h2)⟩
      | tup ds =>
        refine .inr ⟨ρ, τ, S, sm, r, ?_⟩
        rw [e]
        intro ρ1 H1 v x sm1 rv
        cases rv with | d rv => ?_
        cases rv with | tup h1 h2 => ?_
        exact ⟨_, rfl, ⟨_, SqT.mono (Fz.sub _ _) h1⟩, q _ _ _ x sm1 (wk_tup h1 h2)⟩
      | non => exact (show False from q).elim
      | bl => exact (show False from q).elim
      | int => exact (show False from q).elim
      | str => exact (show False from q).elim
      | ins => exact (show False from q).elim
theorem si_rng1 {tg : Expr} {a : E} {ma : AM} {pf p : Pos} (hg : Gl X "range") (hm : X.mg "range" = none) (ha : PA X [a.un] (tA X.K cA ma)) : PI X tg (.Call (.Name "range" pf) [a.un] [] p) (tI X.K cA fun τ S => (ma τ S).bnd fun ws S1 => rng1E ws S1) := by
  refine PIweak (pi_range1 hg hm ha (un_star a _ _)) fun σ H Q q => ?_
  obtain ⟨ρ, τ, S, sm, r, q⟩ := q
  refine tA_bnd sm r (P := PostI X.K cA ρ H Q) (fun z => z) q fun ws S1 ρ1 H1 vs x1 sm1 rw1 r1 h1 => ?_
  unfold rng1E at h1
  split at h1
  · obtain ⟨v, rfl, rv⟩ := rw1.one
    cases rv.int'
    split at h1
    · rename_i hc
      exact ⟨_, rfl, hc.1, hc.2, h1 _ _ _ x1 sm1 (wk_rng _ _)⟩
    · exact (show False from h1).elim
  · exact (show False from h1).elim
theorem si_rng2 {tg : Expr} {a b : E} {ma : AM} {pf p : Pos} (hg : Gl X "range") (hm : X.mg "range" = none) (ha : PA X [a.un, b.un] (tA X.K cA ma)) : PI X tg (.Call (.Name "range" pf) [a.un, b.un] [] p) (tI X.K cA fun τ S => (ma τ S).bnd fun ws S1 => rng2E ws S1) := by
  refine PIweak (pi_range2 hg hm ha (by rw [un_star, un_star]; rfl) (un_star b _ _)) fun σ H Q q => ?_
  obtain ⟨ρ, τ, S, sm, r, q⟩ := q
  refine tA_bnd sm r (P := PostI X.K cA ρ H Q) (fun z => z) q fun ws S1 ρ1 H1 vs x1 sm1 rw1 r1 h1 => ?_
  unfold rng2E at h1
  split at h1
  · obtain ⟨v, v', rfl, rv, rv'⟩ := rw1.two
    cases rv.int'
    cases rv'.int'
    split at h1
    · rename_i hc
      exact ⟨_, _, rfl, hc, h1 _ _ _ x1 sm1 (wk_rng _ _)⟩
    · exact (show False from h1).elim
  · exact (show False from h1).elim
theorem si_enu {es : List Expr} {kk : Nat} {tp : Pos} {a : E} {ma : AM} {pf p : Pos} (hg : Gl X "enumerate") (hm : X.mg "enumerate" = none) (ha : PA X [a.un] (tA X.K cA ma)) : PI X (.Tuple es kk tp) (.Call (.Name "enumerate" pf) [a.un] [] p) (tI X.K cA fun τ S => (ma τ S).bnd fun ws S1 => enuE ws S1) := by
  refine PIweak (pi_enum hg hm ha (un_star a _ _)) fun σ H Q q => ?_
  obtain ⟨ρ, τ, S, sm, r, q⟩ := q
  refine tA_bnd sm r (P := PostI X.K cA ρ H Q) (fun z => z) q fun ws S1 ρ1 H1 vs x1 sm1 rw1 r1 h1 => ?_
  unfold enuE at h1
  split at h1
  · obtain ⟨v, rfl, rv⟩ := rw1.one
    cases rv with | d rv => ?_
    cases rv with | lst a1 a2 => ?_
    exact ⟨_, _, rfl, (Fz.sub _ _).seq a1, h1 _ _ _ x1 sm1 (wk_enu a1 a2)⟩
  · exact (show False from h1).elim
theorem si_zip {es : List Expr} {kk : Nat} {tp : Pos} {a b : E} {ma : AM} {pf p : Pos} (hg : Gl X "zip") (hm : X.mg "zip" = none) (ha : PA X [a.un, b.un] (tA X.K cA ma)) : PI X (.Tuple es kk tp) (.Call (.Name "zip" pf) [a.un, b.un] [] p) (tI X.K cA fun τ S => (ma τ S).bnd fun ws S1 => zipE ws S1) := by
  refine PIweak (pi_zip hg hm ha (un_star a _ _) (uns_star (.acons b .anil) _ _)) fun σ H Q q => ?_
  obtain ⟨ρ, τ, S, sm, r, q⟩ := q
  refine tA_bnd sm r (P := PostI X.K cA ρ H Q) (fun z => z) q fun ws S1 ρ1 H1 vs x1 sm1 rw1 r1 h1 => ?_
  unfold zipE at h1
  split at h1
  · obtain ⟨v, v', rfl, rv, rv'⟩ := rw1.two
    cases rv with | d rv => ?_
    cases rv with | lst a1 a2 => ?_
    cases rv' with | d rv' => ?_
    cases rv' with | lst a3 a4 => ?_
    exact ⟨_, _, _, _, rfl, (Fz.sub _ _).seq a1, (Fz.sub _ _).seq a3, h1 _ _ _ x1 sm1 (wk_zip a1 a2 a3 a4)⟩
  · exact (show False from h1).elim
theorem one_ok : ∀ {e : E}, e.one = true → ∃ a, e = .acons a .anil
  | .acons a .anil, _ => ⟨a, rfl⟩
theorem two_ok : ∀ {e : E}, e.two = true → ∃ a b, e = .acons a (.acons b .anil)
  | .acons a (.acons b .anil), _ => ⟨a, b, rfl⟩
theorem tup_ok : ∀ {g : G}, g.isTup = true → ∃ es k p, g.un = .Tuple es k p
  | .tp gs k p, _ => ⟨_, k, p, rfl⟩
theorem si_it {g : G} {e : E} {k : IK} {m : EM} {ma : AM} (gd : Gd cA gc fs cl n N fn sc X) (hk : k.wf sc e = true) (ht : k.tup g = true) (h : PE X e.un (tE X.K cA m)) (ha : PA X e.uns (tA X.K cA ma)) :
    PI X g.un (k.un e.un e.uns) (tI X.K cA fun τ S => itE k m ma τ S) := by
  cases k with
  | val => exact si_val h
  | rng1 pf p =>
    simp only [IK.wf, Bool.and_eq_true] at hk
    obtain ⟨a, rfl⟩ := one_ok hk.2
    exact si_rng1 (glb_ok gd.sce hk.1) (gd.blt _ (by decide +kernel)) ha
  | rng2 pf p =>
    simp only [IK.wf, Bool.and_eq_true] at hk
    obtain ⟨a, b, rfl⟩ := two_ok hk.2
    exact si_rng2 (glb_ok gd.sce hk.1) (gd.blt _ (by decide +kernel)) ha
  | enu pf p =>
    simp only [IK.wf, Bool.and_eq_true] at hk
    obtain ⟨a, rfl⟩ := one_ok hk.2
    obtain ⟨es, kk, tp, e⟩ := tup_ok ht
    rw [e]
    exact si_enu (glb_ok gd.sce hk.1) (gd.blt _ (by decide +kernel)) ha
  | zip pf p =>
    simp only [IK.wf, Bool.and_eq_true] at hk
    obtain ⟨a, b, rfl⟩ := two_ok hk.2
    obtain ⟨es, kk, tp, e⟩ := tup_ok ht
    rw [e]
    exact si_zip (glb_ok gd.sce hk.1) (gd.blt _ (by decide +kernel)) ha
end
end TM

set_option Elab.async false
set_option linter.all false
set_option maxRecDepth 100000
set_option maxHeartbeats 400000
namespace TM
open PySem PySem.Spec PyProof.Rows L2
/-! ### targets -/
def gNms : List (Nat × Str × Pos) → TGs
  | [] => gNil
  | g :: gs => gCons (gName g.1) (gNms gs)
def G.tg (K : PySem.W.Frag) : G → TG
  | .nm i _ _ => gName i
  | .tp gs _ _ => gTup K gs.length (gNms gs)
theorem wipe_get {σ : LSt} : ∀ {vs : List Nat} {j : Nat}, (wipe σ vs)[j]? = if j ∈ vs ∧ j < σ.length then some none else σ[j]?
  | [], j => by simp [wipe]
  | v :: vs, j => by
    unfold wipe
    rw [List.getElem?_set, wipe_length, wipe_get]
    by_cases h : v = j
    · subst h
      by_cases hl : v < σ.length
      · simp [hl]
      · simp [hl]
    · have h' : ¬ j = v := fun z => h z.symm
      simp [h, h']
theorem wipe_set {σ : LSt} {vs : List Nat} {i : Nat} {x : Option V} (h : i ∈ vs) : wipe (σ.set i x) vs = wipe σ vs := by
  apply List.ext_getElem?
  intro j
  rw [wipe_get, wipe_get, List.length_set, List.getElem?_set]
  by_cases hj : i = j
  · subst hj
    by_cases hl : i < σ.length
    · simp [h, hl]
    · have e : σ[i]? = none := List.getElem?_eq_none (by omega)
      simp [hl, e]
  · simp [hj]
theorem wipe_wipe (σ : LSt) (vs : List Nat) : wipe (wipe σ vs) vs = wipe σ vs := by
  apply List.ext_getElem?
  intro j
  rw [wipe_get, wipe_length, wipe_get]
  split <;> simp_all
section
variable {X : Cx} {cA : CA} {gc : Str → Option D} {fs : Str → Bool} {cl : CallO} {n : Nat} {N : List Str} {fn : Str → Bool} {sc : Scope}
theorem nms_ok {K : PySem.W.Frag} {ρ : List Addr} {H F : Hp} : ∀ {gs : List (Nat × Str × Pos)} {ds : List D} {vs : List V} {τ τ1 : Sg} {σ : LSt} {Q : LSt → Hp → Prop}, Rls K cA F ds vs → Ros K cA ρ F τ σ → setN τ gs ds = some τ1 →
    (∀ σ1, Ros K cA ρ F τ1 σ1 → (∀ ws, (∀ i ∈ gs.map (·.1), i ∈ ws) → wipe σ1 ws = wipe σ ws) → Q σ1 H) → gNms gs vs σ H Q
  | [], [], _, τ, τ1, σ, Q, .nil, r, e, k => by
    cases e
    exact ⟨rfl, k σ r fun _ _ => rfl⟩
  | g :: gs, d :: ds, _, τ, τ1, σ, Q, .cons r1 r2, r, e, k => by
    refine ⟨_, _, rfl, nms_ok r2 (r.set (.d r1) g.1) e fun σ1 r' hw => k σ1 r' fun ws hs => ?_⟩
    rw [hw ws fun i hi => hs i (by simp at hi ⊢; exact .inr hi), wipe_set (hs _ (by simp))]
theorem tg_ok {K : PySem.W.Frag} {ρ : List Addr} {H : Hp} {g : G} {w : W} {v : V} {τ τ1 : Sg} {σ : LSt} {Q : LSt → Hp → Prop} (rv : Rw K cA ρ (Fz ρ H) w v) (r : Ros K cA ρ (Fz ρ H) τ σ) (e : g.go w τ = some τ1)
    (k : ∀ σ1, Ros K cA ρ (Fz ρ H) τ1 σ1 → (∀ ws, (∀ i ∈ g.slots, i ∈ ws) → wipe σ1 ws = wipe σ ws) → Q σ1 H) : g.tg K v σ H Q := by
  cases g with
  | nm i x p =>
    cases e
    exact k _ (r.set rv i) fun ws h => wipe_set (h i (by simp [G.slots]))
  | tp gs kk p =>
    cases rv with
    | ref q => cases e
    | d rv =>
      cases rv with
      | tup h1 h2 =>
        have e : setN τ gs _ = some τ1 := e
        refine ⟨_, _, rfl, SqT.mono (Fz.sub _ _) h1, ?_, nms_ok h2 r e k⟩
        rw [← h2.length]
        exact setN_len e
      | non => cases e
      | bl => cases e
      | int => cases e
      | str => cases e
      | lst => cases e
      | ins => cases e
where setN_len : ∀ {gs : List (Nat × Str × Pos)} {ds : List D} {τ τ1 : Sg}, setN τ gs ds = some τ1 → ds.length = gs.length
  | [], [], _, _, _ => rfl
  | _ :: gs, _ :: ds, _, _, h => by
    simp only [setN] at h
    rw [List.length_cons, List.length_cons, setN_len h]
  | [], _ :: _, _, _, h => by simp [setN] at h
  | _ :: _, [], _, _, h => by simp [setN] at h
theorem nm_ok {i : Nat} {x : Str} {p : Pos} (gd : Gd cA gc fs cl n N fn sc X) (h : nmOk N fn sc i x = true) : PG X (.Name x p) (gName i) := by
  simp only [nmOk, Bool.and_eq_true, decide_eq_true_eq, Bool.or_eq_true] at h
  obtain ⟨⟨h1, h2⟩, h3⟩ := h
  refine pg_name (by rw [gd.Ne]; exact gd.nd) (by rw [gd.Ne]; exact h1) (by rw [gd.sce]; exact loc_ok h2) ?_
  rw [gd.sce, gd.fne]
  exact h3
theorem pgs_ok (gd : Gd cA gc fs cl n N fn sc X) : ∀ {gs : List (Nat × Str × Pos)}, (gs.all fun g => nmOk N fn sc g.1 g.2.1) = true → PGs X (gs.map fun g => .Name g.2.1 g.2.2) (gNms gs)
  | [], _ => pgs_nil
  | g :: gs, h => by
    simp only [List.all_cons, Bool.and_eq_true] at h
    exact pgs_cons (nm_ok gd h.1) (pgs_ok gd h.2) rfl
theorem asg_len (env : Env) : ∀ gs : List (Nat × Str × Pos), (assignEach (gs.map fun g => Expr.Name g.2.1 g.2.2) env).length = gs.length ∧ (assignEach (gs.map fun g => Expr.Name g.2.1 g.2.2) env).findIdx? (·.1) = none
  | [] => ⟨rfl, rfl⟩
  | g :: gs => by
    obtain ⟨h1, h2⟩ := asg_len env gs
    constructor
    · show (assignEach (gs.map fun g => Expr.Name g.2.1 g.2.2) env).length + 1 = gs.length + 1
      rw [h1]
    · have e : assignEach ((g :: gs).map fun g => Expr.Name g.2.1 g.2.2) env = (false, assign (.Name g.2.1 g.2.2) env) :: assignEach (gs.map fun g => Expr.Name g.2.1 g.2.2) env := rfl
      rw [e, List.findIdx?_cons]
      simp [h2]
theorem pg_ok {g : G} (gd : Gd cA gc fs cl n N fn sc X) (h : g.wf N fn sc = true) : PG X g.un (g.tg X.K) := by
  cases g with
  | nm i x p => exact nm_ok gd h
  | tp gs k p => exact pg_tup gd.calm (pgs_ok gd h) (asg_len _ gs).1 (asg_len _ gs).2
end
/-- the store is cut: what is dropped is frozen -/
theorem Sm.cut {K : PySem.W.Frag} {cA : CA} {ρ1 ρ' : List Addr} {S' : Sto} {H' H'' : Hp} (s : Sm K cA ρ' S' H') (p : ρ1 <+: ρ') (h : ∀ a ∈ ρ1, H'' a = H' a) (x : Same (Fz ρ' H') (Fz ρ1 H'')) : Sm K cA ρ1 (S'.take ρ1.length) H'' := by
  obtain ⟨t, rfl⟩ := p
  refine ⟨(List.nodup_append.mp s.nd).1, ?_, fun k o a e1 e2 => ?_, fun a ha => ?_⟩
  · have := s.len
    simp at this
    simp
    omega
  · have hk : k < ρ1.length := (List.getElem?_eq_some_iff.mp e2).1
    rw [List.getElem?_take_of_lt hk] at e1
    have q := s.ob k o a e1 (by rw [List.getElem?_append_left hk]; exact e2)
    have ha := h a (List.mem_of_getElem? e2)
    cases o with
    | lst ds => obtain ⟨vs, e, r⟩ := q; exact ⟨vs, by rw [ha]; exact e, r.mono x⟩
    | ins c f => obtain ⟨C, dx, gs, z, e, r⟩ := q; exact ⟨C, dx, gs, z, by rw [ha]; exact e, r.mono x⟩
  · obtain ⟨o, e⟩ := s.there a (List.mem_append_left _ ha)
    exact ⟨o, by rw [h a ha]; exact e⟩
def ers (H : Hp) (a : Addr) : Hp := fun b => if b = a then none else H b
theorem ers_same {H : Hp} {a : Addr} : ers H a a = none := if_pos rfl
theorem ers_ne {H : Hp} {a b : Addr} (h : b ≠ a) : ers H a b = H b := if_neg h
theorem upd_ers {H : Hp} {a : Addr} {o : HO} (h : H a = some o) : upd (ers H a) a o = H := by
  funext b
  by_cases hb : b = a
  · subst hb; rw [upd_same, h]
  · rw [upd_ne hb, ers_ne hb]
section
variable {X : Cx} {cA : CA} {gc : Str → Option D} {fs : Str → Bool} {cl : CallO} {n : Nat} {N : List Str} {fn : Str → Bool} {sc : Scope}
theorem sf_lc {elt iter : Expr} {ifs : List Expr} {g : G} {own : List (Str × Nat)} {scope : Scope} {p : Pos} {mi : Sg → Sto → R Iv} {mt : BM} {me : EM} (hc : X.calm = true) (hN : X.N.Nodup) (ok : BlkOk X.N X.env.scope scope own) (hs : ∀ i ∈ g.slots, i ∈ own.map (·.2))
    (hi : PI X g.un iter (tI X.K cA mi)) (hg : ∀ (s : Shared) (H : Hp) (C : Addr) (cl : List (Str × Addr)) (fp : List Addr), PG (X.blk s H scope (compEnvC scope cl C X.env) fp) g.un (g.tg X.K))
    (ht : ∀ (s : Shared) (H : Hp) (C : Addr) (cl : List (Str × Addr)) (fp : List Addr), PTs (X.blk s H scope (compEnvC scope cl C X.env) fp) ifs (tT X.K cA mt))
    (he : ∀ (s : Shared) (H : Hp) (C : Addr) (cl : List (Str × Addr)) (fp : List Addr), PE (X.blk s H scope (compEnvC scope cl C X.env) fp) elt (tE X.K cA me)) (hf : ∀ x, foldedSetIterable iter X.env x = pure x)
    {σ : LSt} {H : Hp} {Q : VK} (h : tF X.K cA (lcE own g mi mt me) σ H Q) : tLc (tI X.K cA mi) (g.tg X.K) (tT X.K cA mt) (tE X.K cA me) (own.map (·.2)) σ H Q := by
  obtain ⟨ρ, τ, S, sm, r, h⟩ := h
  refine ⟨ρ, τ, S, sm, r, ?_⟩
  simp only [lcE] at h
  cases e : mi τ S with
  | bad => rw [e] at h; exact h
  | ok iv S1 =>
    rw [e] at h
    simp only [R.bnd_ok] at h
    intro ρ1 H1 J x1 sm1 wk D hD
    have hk : S1.length = ρ1.length := sm1.len.symm
    obtain ⟨sm2, e2⟩ := sm1.push (p := D) (o := .lst []) (ob := .lst []) hD ⟨[], upd_same, .nil⟩
    refine ⟨fun i m H' => i + m = iv.ds.length ∧ ∃ ρ' S', Ext (ρ1 ++ [D]) (upd H1 D (.lst [])) ρ' H' ∧ Sm X.K cA ρ' S' H' ∧ PostF X.K cA ρ H Q (lcX iv.gd S1.length (lcB g mt me (wipeS τ (own.map (·.2)))) (iv.ds.drop i) S'),
      ⟨iv.ds.length, by omega, _, _, Ext.refl _ _, sm2, h⟩, ?_⟩
    rintro i m H' ⟨him, ρ', S', x', sm', hp⟩
    have atD : ρ'[S1.length]? = some D := pre_get x'.pre (by rw [hk]; simp)
    have xx : Ext ρ1 H1 ρ' H' := e2.trans x'
    by_cases hlt : i < iv.ds.length
    · have ed : iv.ds[i]? = some iv.ds[i] := List.getElem?_eq_getElem hlt
      rw [List.drop_eq_getElem_cons hlt] at hp
      simp only [lcX] at hp
      split at hp
      case isFalse => exact (show False from hp).elim
      rename_i hgd
      refine .inr ⟨wk.go ρ' H' S' xx sm' hgd i _ ed, fun H4 => ∃ ρ4 S4, Ext (ρ1 ++ [D]) (upd H1 D (.lst [])) ρ4 H4 ∧ Sm X.K cA ρ4 S4 H4 ∧ PostF X.K cA ρ H Q (lcX iv.gd S1.length (lcB g mt me (wipeS τ (own.map (·.2)))) (iv.ds.drop (i + 1)) S4),
        fun H4 q => ⟨m - 1, by omega, by omega, q⟩, fun x Hy hy => ?_⟩
      obtain ⟨smy, xy, ry⟩ := wk.yld ρ' H' S' xx sm' hgd i _ x Hy ed hy
      have rσ : Ros X.K cA ρ' (Fz ρ' Hy) (wipeS τ (own.map (·.2))) (wipe σ (own.map (·.2))) := ((r.ext x1).ext (xx.trans xy)).wipe _
      cases eg : g.go (.d iv.ds[i]) (wipeS τ (own.map (·.2))) with
      | none => simp only [lcB, eg, R.bnd_bad] at hp; exact (show False from hp).elim
      | some τ1 =>
        simp only [lcB, eg] at hp
        refine tg_ok (.d ry) rσ eg fun σ1 r1 hw => ⟨?_, ?_⟩
        · rw [hw _ hs, wipe_wipe]
        · refine ⟨ρ', τ1, S', smy, r1, ?_⟩
          cases et : mt τ1 S' with
          | bad => rw [et] at hp; exact (show False from hp).elim
          | ok b S3 =>
            rw [et] at hp
            intro ρ3 H3 x3 sm3
            cases b with
            | false =>
              rw [if_neg Bool.false_ne_true]
              simp only [R.bnd_ok] at hp
              rw [if_neg Bool.false_ne_true] at hp
              simp only [R.bnd_ok] at hp
              exact ⟨ρ3, S3, (x'.trans xy).trans x3, sm3, hp⟩
            | true =>
              rw [if_pos rfl]
              simp only [R.bnd_ok, if_pos] at hp
              refine ⟨ρ3, τ1, S3, sm3, r1.ext x3, ?_⟩
              cases ee : me τ1 S3 with
              | bad => rw [ee] at hp; exact (show False from hp).elim
              | ok y S4 =>
                rw [ee] at hp
                intro ρ4 H4 v4 x4 sm4 rv4
                have atD4 : ρ4[S1.length]? = some D := pre_get (xy.pre.trans (x3.pre.trans x4.pre)) atD
                cases y with
                | ref q => exact (show False from hp).elim
                | d yd =>
                  simp only [R.bnd_ok] at hp
                  split at hp
                  · rename_i acc ea
                    obtain ⟨vs, h1, h2⟩ := sm4.ob _ _ _ ea atD4
                    split at hp
                    · rename_i hl
                      cases rv4 with | d rv4 => ?_
                      refine ⟨vs, h1, by rw [← h2.length]; exact hl, ?_⟩
                      obtain ⟨s5, e5⟩ := sm4.write (n := S1.length) (ob := .lst (acc ++ [yd])) (o := .lst (vs ++ [v4])) atD4 ⟨_, upd_same, h2.append (.cons rv4 .nil)⟩
                      exact ⟨ρ4, _, (((x'.trans xy).trans x3).trans x4).trans e5, s5, hp⟩
                    · exact (show False from hp).elim
                  · exact (show False from hp).elim
    · have e0 : iv.ds.drop i = [] := List.drop_eq_nil_of_le (by omega)
      rw [e0] at hp
      simp only [lcX] at hp
      split at hp
      case isFalse => exact (show False from hp).elim
      rename_i hgd
      split at hp
      · rename_i acc ea
        refine .inl ⟨wk.stop ρ' H' S' xx sm' hgd i (by omega), ?_⟩
        obtain ⟨vs, h1, h2⟩ := sm'.ob _ _ _ ea atD
        have nD : D ∉ ρ1 := sm1.not_mem hD
        have pre1 : ρ1 <+: ρ' := xx.pre
        have sa : Same (Fz ρ' H') (Fz ρ1 (ers H' D)) := fun b o q => by
          have nb : b ∉ ρ' := fun z => by unfold Fz at q; rw [if_pos z] at q; cases q
          have nb1 : b ∉ ρ1 := fun z => nb (pre1.subset z)
          have ne : b ≠ D := fun z => nb (by rw [z]; exact List.mem_of_getElem? atD)
          rw [Fz_of_not nb] at q
          rw [Fz_of_not nb1, ers_ne ne]
          exact q
        have sc' := sm'.cut pre1 (H'' := ers H' D) (fun a ha => ers_ne fun z => nD (by rw [← z]; exact ha)) sa
        have z := hp ρ1 (ers H' D) vs D ⟨x1.pre, fun b o q => sa b o (xx.same b o (x1.same b o q))⟩ (by rw [hk]; exact sc') (h2.mono sa) ers_same
        rw [upd_ers h1] at z
        exact z
      · exact (show False from hp).elim
end
end TM

set_option Elab.async false
set_option linter.all false
set_option maxRecDepth 100000
set_option maxHeartbeats 400000
namespace TM
open PySem PySem.Spec PyProof.Rows L2
section
variable {cA : CA} {gc : Str → Option D} {fs : Str → Bool} {cl : CallO} {n : Nat} {N : List Str}
/-- what is to be shown of a piece of syntax -/
structure Ok (cA : CA) (gc : Str → Option D) (fs : Str → Bool) (cl : CallO) (n : Nat) (N : List Str) (c : E) : Prop where
  e : ∀ fn sc X, Gd cA gc fs cl n N fn sc X → c.wf N fs sc = true → PE X c.un (tE X.K cA (evE cl gc c))
  t : ∀ fn sc X, Gd cA gc fs cl n N fn sc X → c.wf N fs sc = true → PT X c.un (tT X.K cA fun τ S => asB (evE cl gc c τ S))
  a : ∀ fn sc X, Gd cA gc fs cl n N fn sc X → c.wf N fs sc = true → PA X c.uns (tA X.K cA (evA cl gc c))
  bv : ∀ fn sc X, Gd cA gc fs cl n N fn sc X → c.wf N fs sc = true → c.args = true → ∀ o p, PE X (.BoolOp o c.uns p) (tE X.K cA fun τ S => (evB cl gc o c τ S).bnd fun b S1 => .ok (.d (.bl b)) S1)
  bt : ∀ fn sc X, Gd cA gc fs cl n N fn sc X → c.wf N fs sc = true → c.args = true → ∀ o p, PW X (.BoolOp o c.uns p) (tT X.K cA (evB cl gc o c))
  ts : ∀ fn sc X, Gd cA gc fs cl n N fn sc X → c.wf N fs sc = true → PTs X c.uns (tT X.K cA (evTs cl gc c))
theorem pa_bad {X : Cx} {es : List Expr} {m : AM} (h : ∀ τ S, m τ S = .bad) : PA X es (tA X.K cA m) := ⟨fun pos pins s σ H Q I q => by
  obtain ⟨ρ, τ, S, _, _, z⟩ := q
  rw [h] at z
  exact z.elim⟩
theorem pts_bad {X : Cx} {es : List Expr} {m : BM} (h : ∀ τ S, m τ S = .bad) : PTs X es (tT X.K cA m) := ⟨fun pins s σ H Q I q => by
  obtain ⟨ρ, τ, S, _, _, z⟩ := q
  rw [h] at z
  exact z.elim⟩
theorem pt_bad {X : Cx} {e : Expr} {m : BM} (h : ∀ τ S, m τ S = .bad) : PT X e (tT X.K cA m) := ⟨fun pins s σ H Q I q => by
  obtain ⟨ρ, τ, S, _, _, z⟩ := q
  rw [h] at z
  exact z.elim⟩
/-- no argument list -/
theorem ok_of {c : E} (ha : ∀ τ S, evA cl gc c τ S = .bad) (hn : c.args = false) (hts : ∀ τ S, evTs cl gc c τ S = .bad)
    (e : ∀ fn sc X, Gd cA gc fs cl n N fn sc X → c.wf N fs sc = true → PE X c.un (tE X.K cA (evE cl gc c))) (t : ∀ fn sc X, Gd cA gc fs cl n N fn sc X → c.wf N fs sc = true → PT X c.un (tT X.K cA fun τ S => asB (evE cl gc c τ S))) : Ok cA gc fs cl n N c where
  e := e
  t := t
  a := fun _ _ _ _ _ => pa_bad ha
  bv := fun _ _ _ _ _ h => by rw [hn] at h; cases h
  bt := fun _ _ _ _ _ h => by rw [hn] at h; cases h
  ts := fun _ _ _ _ _ => pts_bad hts
/-- .. whose test is its value's truth -/
theorem ok_val {c : E} (ha : ∀ τ S, evA cl gc c τ S = .bad) (hn : c.args = false) (hts : ∀ τ S, evTs cl gc c τ S = .bad) (hw : ∀ (env : Env) (whole : Sem Value), isTrue c.un env whole = (do let v ← whole; standAt c.un.pos; holding [v] (truthy v)))
    (e : ∀ fn sc X, Gd cA gc fs cl n N fn sc X → c.wf N fs sc = true → PE X c.un (tE X.K cA (evE cl gc c))) : Ok cA gc fs cl n N c :=
  ok_of ha hn hts e fun fn sc X g w => st_val (e fn sc X g w) (hw _)
theorem blk_gd {fn : Str → Bool} {sc : Scope} {X : Cx} (g : Gd cA gc fs cl n N fn sc X) {scope : Scope} (hk : scope.kind = .function) (s : Shared) (H : Hp) (C : Addr) (cl' : List (Str × Addr)) (fp : List Addr) :
    Gd cA gc fs cl n N (fun x => scope.names.lookup x == some .cell) (relS scope sc) (X.blk s H scope (compEnvC scope cl' C X.env) fp) where
  sce := by rw [← g.sce]; rfl
  kd := hk
  Ne := g.Ne
  nd := g.nd
  calm := g.calm
  room := g.room
  grd := g.grd
  xe := rfl
  fne := rfl
  blt := g.blt
  fns := g.fns
  glo := g.glo
theorem plain_un (b : E) : PlainIx b.un := fun _ _ => by cases b <;> rfl
theorem un_last (o o2 : CmpOp) (b c : E) : lastMarks [o, o2] [b.un, c.un] = false := by
  show behindInMarks o2 c.un = false
  exact un_mark o2 c
theorem sE : ∀ c : E, Ok cA gc fs cl n N c := by
  intro c
  induction c with
  | var i x p =>
    refine ok_val (fun _ _ => by simp only [evA]) rfl (fun _ _ => by simp only [evTs]) (fun _ _ => rfl) fun fn sc X g w => ?_
    simp only [E.wf, Bool.and_eq_true, decide_eq_true_eq] at w
    obtain ⟨⟨⟨h1, h2⟩, h3⟩, h4⟩ := w
    exact sv_var (by rw [g.Ne]; exact h1) (by rw [g.sce]; exact vis_ok h2) (dbg_ok h3) (by simpa using h4)
  | int i k p =>
    refine ok_val (fun _ _ => by simp only [evA]) rfl (fun _ _ => by simp only [evTs]) (fun _ _ => rfl) fun fn sc X g w => ?_
    exact PE.weak pe_int fun σ H Q h => by
      obtain ⟨ρ, τ, S, sm, r, h⟩ := h
      simp only [evE] at h
      exact h.here sm (.d (.int _))
  | str i k p =>
    refine ok_val (fun _ _ => by simp only [evA]) rfl (fun _ _ => by simp only [evTs]) (fun _ _ => rfl) fun fn sc X g w => ?_
    exact PE.weak pe_str fun σ H Q h => by
      obtain ⟨ρ, τ, S, sm, r, h⟩ := h
      simp only [evE] at h
      exact h.here sm (.d (.str _))
  | bl i k p =>
    refine ok_val (fun _ _ => by simp only [evA]) rfl (fun _ _ => by simp only [evTs]) (fun _ _ => rfl) fun fn sc X g w => ?_
    exact PE.weak pe_bl fun σ H Q h => by
      obtain ⟨ρ, τ, S, sm, r, h⟩ := h
      simp only [evE] at h
      exact h.here sm (.d (.bl _))
  | non k p =>
    refine ok_val (fun _ _ => by simp only [evA]) rfl (fun _ _ => by simp only [evTs]) (fun _ _ => rfl) fun fn sc X g w => ?_
    exact PE.weak pe_non fun σ H Q h => by
      obtain ⟨ρ, τ, S, sm, r, h⟩ := h
      simp only [evE] at h
      exact h.here sm (.d .non)
  | glo x p =>
    refine ok_val (fun _ _ => by simp only [evA]) rfl (fun _ _ => by simp only [evTs]) (fun _ _ => rfl) fun fn sc X g w => ?_
    simp only [E.wf, Bool.and_eq_true] at w
    exact sv_glo g (glb_ok g.sce w.1) (dbg_ok w.2)
  | bin o a b p iha ihb =>
    refine ok_val (fun _ _ => by simp only [evA]) rfl (fun _ _ => by simp only [evTs]) (fun _ _ => rfl) fun fn sc X g w => ?_
    simp only [E.wf, Bool.and_eq_true] at w
    exact PE.weak (sv_bin (op_any (cA := cA) o) (iha.e fn sc X g w.1) (ihb.e fn sc X g w.2)) fun σ H Q h => by simpa only [evE] using h
  | neg a p iha =>
    refine ok_val (fun _ _ => by simp only [evA]) rfl (fun _ _ => by simp only [evTs]) (fun _ _ => rfl) fun fn sc X g w => ?_
    simp only [E.wf] at w
    exact PE.weak (sv_neg (iha.e fn sc X g w)) fun σ H Q h => by simpa only [evE] using h
  | not a p iha =>
    refine ok_of (fun _ _ => by simp only [evA]) rfl (fun _ _ => by simp only [evTs]) (fun fn sc X g w => ?_) fun fn sc X g w => ?_
    · simp only [E.wf] at w
      exact PE.weak (sv_not (iha.e fn sc X g w)) fun σ H Q h => by simpa only [evE] using h
    · simp only [E.wf] at w
      exact PT.weak (st_not (iha.t fn sc X g w)) fun σ H Q h => by simpa only [evE] using h
  | cmp o a b p iha ihb =>
    refine ok_of (fun _ _ => by simp only [evA]) rfl (fun _ _ => by simp only [evTs]) (fun fn sc X g w => ?_) fun fn sc X g w => ?_
    · simp only [E.wf, Bool.and_eq_true] at w
      exact PE.weak (sv_cmp g.room.units (iha.e fn sc X g w.1) (ihb.e fn sc X g w.2) (un_mark o b)) fun σ H Q h => by simpa only [evE] using h
    · simp only [E.wf, Bool.and_eq_true] at w
      exact PT.weak (st_cmp g.room.units (iha.e fn sc X g w.1) (ihb.e fn sc X g w.2) (un_mark o b)) fun σ H Q h => by simpa only [evE] using h
  | isN y a k p1 p iha =>
    refine ok_of (fun _ _ => by simp only [evA]) rfl (fun _ _ => by simp only [evTs]) (fun fn sc X g w => ?_) fun fn sc X g w => ?_
    · simp only [E.wf] at w
      exact PE.weak (sv_isN (iha.e fn sc X g w)) fun σ H Q h => by simpa only [evE] using h
    · simp only [E.wf] at w
      exact PT.weak (st_isN (iha.e fn sc X g w)) fun σ H Q h => by simpa only [evE] using h
  | chn o o2 a b c p iha ihb ihc =>
    refine ok_of (fun _ _ => by simp only [evA]) rfl (fun _ _ => by simp only [evTs]) (fun fn sc X g w => ?_) fun fn sc X g w => ?_
    · simp only [E.wf, Bool.and_eq_true] at w
      exact PE.weak (sv_chn g.room.units (iha.e fn sc X g w.1.1) (ihb.e fn sc X g w.1.2) (ihc.e fn sc X g w.2) (un_last o o2 b c)) fun σ H Q h => by simp only [evE] at h; exact h
    · simp only [E.wf, Bool.and_eq_true] at w
      exact PT.weak (st_chn g.room.units (iha.e fn sc X g w.1.1) (ihb.e fn sc X g w.1.2) (ihc.e fn sc X g w.2) (un_last o o2 b c)) fun σ H Q h => by simpa only [evE, chnE] using h
  | bop o as p ih =>
    refine ok_of (fun _ _ => by simp only [evA]) rfl (fun _ _ => by simp only [evTs]) (fun fn sc X g w => ?_) fun fn sc X g w => ?_
    · simp only [E.wf, Bool.and_eq_true] at w
      exact PE.weak (ih.bv fn sc X g w.1 w.2 o p) fun σ H Q h => by simpa only [evE] using h
    · simp only [E.wf, Bool.and_eq_true] at w
      refine PT.weak (ih.bt fn sc X g w.1 w.2 o p).pt fun σ H Q h => ?_
      obtain ⟨ρ, τ, S, sm, r, h⟩ := h
      refine ⟨ρ, τ, S, sm, r, ?_⟩
      simp only [evE] at h
      cases q : evB cl gc o as τ S with
      | bad => rw [q] at h; exact h
      | ok b S1 => rw [q] at h; exact h
  | ite c a b p ihc iha ihb =>
    refine ok_of (fun _ _ => by simp only [evA]) rfl (fun _ _ => by simp only [evTs]) (fun fn sc X g w => ?_) fun fn sc X g w => ?_
    · simp only [E.wf, Bool.and_eq_true] at w
      exact PE.weak (sv_ite (ihc.t fn sc X g w.1.1) (iha.e fn sc X g w.1.2) (ihb.e fn sc X g w.2)) fun σ H Q h => by simpa only [evE] using h
    · simp only [E.wf, Bool.and_eq_true] at w
      exact PT.weak (st_ite (ihc.t fn sc X g w.1.1) (iha.t fn sc X g w.1.2) (ihb.t fn sc X g w.2)) fun σ H Q h => by simpa only [evE] using h
  | call f as pf p ih =>
    refine ok_val (fun _ _ => by simp only [evA]) rfl (fun _ _ => by simp only [evTs]) (fun _ _ => rfl) fun fn sc X g w => ?_
    simp only [E.wf, Bool.and_eq_true] at w
    obtain ⟨⟨⟨⟨h1, h2⟩, h3⟩, h4⟩, h5⟩ := w
    cases as with
    | acons a as => exact PE.weak (sv_call g (glb_ok g.sce h1) h2 (dbg_ok h3) (ih.a fn sc X g h4)) fun σ H Q h => by simpa only [evE] using h
    | _ => cases h5
  | bi f as pf p ih =>
    refine ok_val (fun _ _ => by simp only [evA]) rfl (fun _ _ => by simp only [evTs]) (fun _ _ => rfl) fun fn sc X g w => ?_
    simp only [E.wf, Bool.and_eq_true] at w
    obtain ⟨⟨h1, h2⟩, h3⟩ := w
    cases as with
    | acons a as => exact PE.weak (sv_bi g (glb_ok g.sce h1) (ih.a fn sc X g h2)) fun σ H Q h => by simpa only [evE] using h
    | _ => cases h3
  | fb f as pf p ih =>
    refine ok_val (fun _ _ => by simp only [evA]) rfl (fun _ _ => by simp only [evTs]) (fun _ _ => rfl) fun fn sc X g w => ?_
    simp only [E.wf, Bool.and_eq_true] at w
    obtain ⟨⟨h1, h2⟩, h3⟩ := w
    cases f
    cases as with
    | acons a as => exact PE.weak (sv_frz (sf_ty cr_list' (glb_ok g.sce h1) (g.blt _ (by decide +kernel)) (by decide +kernel) (by decide +kernel) (by decide +kernel) (ih.a fn sc X g h2))) fun σ H Q h => by simpa only [evE] using h
    | _ => cases h3
  | isi a t pf pt p ih =>
    refine ok_val (fun _ _ => by simp only [evA]) rfl (fun _ _ => by simp only [evTs]) (fun _ _ => rfl) fun fn sc X g w => ?_
    simp only [E.wf, Bool.and_eq_true] at w
    exact PE.weak (sv_isi g (glb_ok g.sce w.1.1) (glb_ok g.sce w.1.2) (ih.e fn sc X g w.2)) fun σ H Q h => by simpa only [evE] using h
  | ix a b p iha ihb =>
    refine ok_val (fun _ _ => by simp only [evA]) rfl (fun _ _ => by simp only [evTs]) (fun _ _ => rfl) fun fn sc X g w => ?_
    simp only [E.wf, Bool.and_eq_true] at w
    exact PE.weak (sv_ix (iha.e fn sc X g w.1) (ihb.e fn sc X g w.2) (plain_un b)) fun σ H Q h => by simpa only [evE] using h
  | sl a lo hi p2 p iha ihl ihh =>
    refine ok_val (fun _ _ => by simp only [evA]) rfl (fun _ _ => by simp only [evTs]) (fun _ _ => rfl) fun fn sc X g w => ?_
    exact pe_bad fun _ _ => by simp only [evE]
  | tup as k p ih =>
    refine ok_val (fun _ _ => by simp only [evA]) rfl (fun _ _ => by simp only [evTs]) (fun _ _ => rfl) fun fn sc X g w => ?_
    simp only [E.wf] at w
    exact PE.weak (sv_tup (ih.a fn sc X g w)) fun σ H Q h => by simpa only [evE] using h
  | lst as p ih =>
    refine ok_val (fun _ _ => by simp only [evA]) rfl (fun _ _ => by simp only [evTs]) (fun _ _ => rfl) fun fn sc X g w => ?_
    simp only [E.wf] at w
    exact PE.weak (sv_frz (sf_lst (ih.a fn sc X g w))) fun σ H Q h => by simpa only [evE] using h
  | rep as b pl p iha ihb =>
    refine ok_val (fun _ _ => by simp only [evA]) rfl (fun _ _ => by simp only [evTs]) (fun _ _ => rfl) fun fn sc X g w => ?_
    simp only [E.wf, Bool.and_eq_true] at w
    exact PE.weak (sv_frz (sf_rep (sf_lst (iha.a fn sc X g w.1)) (ihb.e fn sc X g w.2))) fun σ H Q h => by simpa only [evE] using h
  | lc own elt gt k it ifs scope p ihe ihi iht =>
    refine ok_val (fun _ _ => by simp only [evA]) rfl (fun _ _ => by simp only [evTs]) (fun _ _ => rfl) fun fn sc X g w => ?_
    simp only [E.wf, Bool.and_eq_true] at w
    obtain ⟨⟨⟨⟨⟨⟨⟨h1, h2⟩, h3⟩, h4⟩, h5⟩, h6⟩, h7⟩, h8⟩ := w
    have ok : BlkOk N sc scope own := blkOk_by h4
    have ok' : BlkOk X.N X.env.scope scope own := by rw [g.Ne, g.sce]; exact ok
    have hs : ∀ i ∈ gt.slots, i ∈ own.map (·.2) := fun i hi => of_decide_eq_true (List.all_eq_true.mp h6 i hi)
    have b := fun s H C cl' fp => blk_gd g ok.kind s H C cl' fp
    have hi := si_it g h2 h3 (ihi.e fn sc X g h1) (ihi.a fn sc X g h1)
    have hg := fun s H C cl' fp => pg_ok (b s H C cl' fp) h5
    have ht := fun s H C cl' fp => iht.ts _ _ _ (b s H C cl' fp) h8
    have he := fun s H C cl' fp => ihe.e _ _ _ (b s H C cl' fp) h7
    have nd : X.N.Nodup := by rw [g.Ne]; exact g.nd
    have q : PE X (E.lc own elt gt k it ifs scope p).un (tF X.K cA (lcE own gt (itE k (evE cl gc it) (evA cl gc it)) (evTs cl gc ifs) (evE cl gc elt))) :=
      PE.weak (pe_lc g.calm nd hi ok' hg ht he (un_fold k it _)) fun σ H Q h => sf_lc (p := p) g.calm nd ok' hs hi hg ht he (un_fold k it _) h
    exact PE.weak (sv_frz q) fun σ H Q h => by simpa only [evE] using h
  | mm m o as pa p iho iha =>
    refine ok_val (fun _ _ => by simp only [evA]) rfl (fun _ _ => by simp only [evTs]) (fun _ _ => rfl) fun fn sc X g w => ?_
    simp only [E.wf, Bool.and_eq_true] at w
    obtain ⟨⟨⟨⟨⟨h1, h2⟩, h3⟩, h4⟩, h5⟩, h6⟩ := w
    cases o with
    | var i x px =>
      cases as with
      | acons a as =>
        have few : ((backTo p (starEach (a.un :: as.uns) X.env)).all (fun x => !x.1) && (backToKw p (keywordEach [] X.env)).all (fun x => x.1.isSome) && decide ((a.un :: as.uns).length + ([] : List Keyword).length + (if ([] : List Keyword).isEmpty then 0 else 1) < 30)) = true := by
          have l : (a.un :: as.uns).length < 29 := of_decide_eq_true h6
          have z := uns_star (.acons a as) p X.env
          rw [show (E.acons a as).uns = a.un :: as.uns from rfl] at z
          have z2 : (backTo p (starEach (a.un :: as.uns) X.env)).all (fun x => !x.1) = true := by
            rw [List.all_eq_true]
            intro y hy
            rw [List.any_eq_false] at z
            have := z y hy
            simpa using this
          rw [z2]
          simp only [List.length_cons, List.length_nil, Bool.true_and]
          simp only [List.length_cons] at l
          exact Bool.and_eq_true_iff.mpr ⟨rfl, decide_eq_true (by simp; omega)⟩
        have go : ∀ {id : String} (pl : PlainAttrs "list") (sl : Slot "list" m.nm id) (ty : typeOf (.builtin id) = pure (.type "method_descriptor")) (hm : MtR X id (rMm X.K cA m)), PE X (.Call (.Attribute (.Name x px) m.nm pa) (a.un :: as.uns) [] p)
            (tE X.K cA fun τ S => (evE cl gc (.var i x px) τ S).bnd fun y S1 => if isL S1 y = true then (evA cl gc (.acons a as) τ S1).bnd fun ws S2 => mmE m y ws S2 else .bad) := by
          intro id pl sl ty hm
          refine PE.weak (pe_bm pl sl ty hm (iho.e fn sc X g h1) (iha.a fn sc X g h3) rfl few h5 (un_star a _ _) (uns_star as _ _)) fun σ H Q h => ?_
          obtain ⟨ρ, τ, S, sm, r, h⟩ := h
          refine tE_bnd sm r (P := PostW X.K cA ρ H Q) (fun z => z) h fun w S1 ρ1 H1 v x1 sm1 rw1 r1 h1 => ?_
          split at h1
          case isFalse => exact (show False from h1).elim
          rename_i il
          refine ⟨?_, ?_⟩
          · cases rw1 with
            | d q => cases il
            | ref q =>
              simp only [isL] at il
              split at il
              · rename_i xs eb
                obtain ⟨vs, z1, _⟩ := sm1.ob _ _ _ eb q
                exact .inl ⟨rfl, vs, .inl (.inl z1)⟩
              · cases il
          · refine tA_bnd sm1 r1 (P := PostW X.K cA ρ H Q) (fun z => z) h1 fun ws S2 ρ2 H2 vs x2 sm2 rw2 r2 h2 => ?_
            exact ⟨ρ2, w, ws, S2, sm2, rw1.ext x2, rw2, PostW.ext (x1.trans x2) h2⟩
        cases m with
        | append => exact PE.weak (go PySem.F.plainAttrs_list PySem.F.slot_list_append PySem.F.type_list_append mm_append) fun σ H Q h => by simpa only [evE] using h
        | pop => exact PE.weak (go PySem.F.plainAttrs_list PySem.F.slot_list_pop PySem.F.type_list_pop mm_pop) fun σ H Q h => by simpa only [evE] using h
      | _ => cases h4
    | _ => cases h2
  | no =>
    refine ok_val (fun _ _ => by simp only [evA]) rfl (fun _ _ => by simp only [evTs]) (fun _ _ => rfl) fun fn sc X g w => ?_
    exact pe_bad fun _ _ => by simp only [evE]
  | anil =>
    exact ⟨fun _ _ _ _ _ => pe_bad fun _ _ => by simp only [evE], fun _ _ _ _ _ => pt_bad fun _ _ => by simp only [evE]; rfl, fun _ _ _ _ _ => PA.weak sv_args0 fun σ H Q h => by simpa only [evA] using h, (fun _ _ _ _ _ h => nomatch h), (fun _ _ _ _ _ h => nomatch h),
      fun _ _ _ _ _ => ⟨fun pins s σ H Q I h => pts_nil.run pins s σ H Q I (by
        obtain ⟨ρ, τ, S, sm, r, h⟩ := h
        simp only [evTs] at h
        exact h _ _ (Ext.refl _ _) sm)⟩⟩
  | acons a as iha ihas =>
    refine ⟨fun _ _ _ _ _ => pe_bad fun _ _ => by simp only [evE], fun _ _ _ _ _ => pt_bad fun _ _ => by simp only [evE]; rfl, fun fn sc X g w => ?_, fun fn sc X g w _ o p => ?_, fun fn sc X g w _ o p => ?_, fun fn sc X g w => ?_⟩
    · simp only [E.wf, Bool.and_eq_true] at w
      exact PA.weak (sv_args (iha.e fn sc X g w.1.1) (ihas.a fn sc X g w.1.2)) fun σ H Q h => by simpa only [evA] using h
    · simp only [E.wf, Bool.and_eq_true] at w
      cases as with
      | anil =>
        refine PE.weak (pe_one (iha.e fn sc X g w.1.1)) fun σ H Q h => ?_
        obtain ⟨ρ, τ, S, sm, r, h⟩ := h
        simp only [evB] at h
        refine ⟨ρ, τ, S, sm, r, ?_⟩
        cases q : evE cl gc a τ S with
        | bad => rw [q] at h; exact h
        | ok v S1 =>
          rw [q] at h
          cases v with
          | ref z => exact (show False from h).elim
          | d z => cases z <;> first | exact h | exact (show False from h).elim
      | acons b bs =>
        cases o with
        | And =>
          refine PE.weak (pe_and (iha.e fn sc X g w.1.1) (ihas.bv fn sc X g w.1.2 rfl .And p)) fun σ H Q h => ?_
          obtain ⟨ρ, τ, S, sm, r, h⟩ := h
          refine tE_bnd sm r (P := fun z => PostW X.K cA ρ H Q ((asB z).bnd fun c S1 => (if c = true then evB cl gc .And (.acons b bs) τ S1 else .ok false S1).bnd fun c' S2 => .ok (.d (.bl c')) S2)) (f := fun w S => .ok w S) (fun z => z) ?_ fun w S1 ρ1 H1 v x1 sm1 rw1 r1 h1 => ?_
          · simp only [evB] at h
            cases q : evE cl gc a τ S with
            | bad => rw [q] at h; exact h
            | ok v S1 =>
              rw [q] at h
              cases v with
              | ref z => exact (show False from h).elim
              | d z => cases z <;> first | exact h | exact (show False from h).elim
          · cases rw1 with
            | ref q => exact (show False from h1).elim
            | d q =>
              cases q with
              | bl c =>
                refine ⟨c, rfl, ?_⟩
                cases c with
                | true => exact ⟨ρ1, τ, S1, sm1, r1, PostW.ext x1 h1⟩
                | false => exact h1 _ _ _ x1 sm1 (.d (.bl _))
              | _ => exact (show False from h1).elim
        | Or =>
          refine PE.weak (pe_or (iha.e fn sc X g w.1.1) (ihas.bv fn sc X g w.1.2 rfl .Or p)) fun σ H Q h => ?_
          obtain ⟨ρ, τ, S, sm, r, h⟩ := h
          refine tE_bnd sm r (P := fun z => PostW X.K cA ρ H Q ((asB z).bnd fun c S1 => (if c = true then .ok true S1 else evB cl gc .Or (.acons b bs) τ S1).bnd fun c' S2 => .ok (.d (.bl c')) S2)) (f := fun w S => .ok w S) (fun z => z) ?_ fun w S1 ρ1 H1 v x1 sm1 rw1 r1 h1 => ?_
          · simp only [evB] at h
            cases q : evE cl gc a τ S with
            | bad => rw [q] at h; exact h
            | ok v S1 =>
              rw [q] at h
              cases v with
              | ref z => exact (show False from h).elim
              | d z => cases z <;> first | exact h | exact (show False from h).elim
          · cases rw1 with
            | ref q => exact (show False from h1).elim
            | d q =>
              cases q with
              | bl c =>
                refine ⟨c, rfl, ?_⟩
                cases c with
                | false => exact ⟨ρ1, τ, S1, sm1, r1, PostW.ext x1 h1⟩
                | true => exact h1 _ _ _ x1 sm1 (.d (.bl _))
              | _ => exact (show False from h1).elim
      | _ => exact absurd (show false = true from w.2) Bool.false_ne_true
    · simp only [E.wf, Bool.and_eq_true] at w
      cases as with
      | anil =>
        cases o with
        | And => exact PW.weak (pw_and1 (iha.t fn sc X g w.1.1)) fun σ H Q h => by simpa only [evB] using h
        | Or => exact PW.weak (pw_or1 (iha.t fn sc X g w.1.1)) fun σ H Q h => by simpa only [evB] using h
      | acons b bs =>
        cases o with
        | And =>
          refine PW.weak (pw_and (iha.t fn sc X g w.1.1) (ihas.bt fn sc X g w.1.2 rfl .And p)) fun σ H Q h => ?_
          obtain ⟨ρ, τ, S, sm, r, h⟩ := h
          simp only [evB] at h
          refine tT_bnd (m := fun τ S => asB (evE cl gc a τ S)) sm r (P := PostB X.K cA ρ H Q) (fun z => z) h fun c S1 ρ1 H1 x1 sm1 r1 h1 => ?_
          cases c with
          | true => exact ⟨ρ1, τ, S1, sm1, r1, PostB.ext x1 h1⟩
          | false => exact h1 _ _ x1 sm1
        | Or =>
          refine PW.weak (pw_or (iha.t fn sc X g w.1.1) (ihas.bt fn sc X g w.1.2 rfl .Or p)) fun σ H Q h => ?_
          obtain ⟨ρ, τ, S, sm, r, h⟩ := h
          simp only [evB] at h
          refine tT_bnd (m := fun τ S => asB (evE cl gc a τ S)) sm r (P := PostB X.K cA ρ H Q) (fun z => z) h fun c S1 ρ1 H1 x1 sm1 r1 h1 => ?_
          cases c with
          | false => exact ⟨ρ1, τ, S1, sm1, r1, PostB.ext x1 h1⟩
          | true => exact h1 _ _ x1 sm1
      | _ => exact absurd (show false = true from w.2) Bool.false_ne_true
    · simp only [E.wf, Bool.and_eq_true] at w
      cases as with
      | anil => exact ⟨fun pins s σ H Q I h => (pts_one (iha.t fn sc X g w.1.1)).run pins s σ H Q I (by simpa only [evTs] using h)⟩
      | _ => exact pts_bad fun _ _ => by simp only [evTs]
end
end TM

set_option Elab.async false
set_option linter.all false
set_option maxRecDepth 100000
set_option maxHeartbeats 400000
namespace TM
open PySem PySem.Spec PyProof.Rows L2
/-- new lists -/
def E.isF : E → Bool
  | .fb _ _ _ _ => true
  | .lst _ _ => true
  | .rep _ _ _ _ => true
  | .lc _ _ _ _ _ _ _ _ => true
  | _ => false
def E.isLc : E → Bool
  | .lc _ _ _ _ _ _ _ _ => true
  | _ => false
/-- a comprehension that is stored under a name: how the machine swaps -/
def swOk (sc : Scope) (x : Str) (px : Pos) : E → Bool
  | .lc _ _ _ _ _ _ scope p => decide (sc.names.lookup x = some .local) && (px.line == p.line) && !(scope.names.any fun (n, k) => n == x && (k == .local || k == .cell))
  | _ => true
section
variable {cA : CA} {gc : Str → Option D} {fs : Str → Bool} {cl : CallO} {n : Nat} {N : List Str} {fn : Str → Bool} {sc : Scope} {X : Cx}
theorem sF (c : E) (g : Gd cA gc fs cl n N fn sc X) (w : c.wf N fs sc = true) : PE X c.un (tF X.K cA (evF cl gc c)) := by
  have bad : ∀ {e : Expr} {m : LM}, (∀ τ S, m τ S = .bad) → PE X e (tF X.K cA m) := fun h => ⟨fun pins s σ H Q I q => by
    obtain ⟨ρ, τ, S, _, _, z⟩ := q
    rw [h] at z
    exact z.elim⟩
  cases c with
  | fb f as pf p =>
    simp only [E.wf, Bool.and_eq_true] at w
    obtain ⟨⟨h1, h2⟩, h3⟩ := w
    cases f
    cases as with
    | acons a as => exact PE.weak (sf_ty cr_list' (glb_ok g.sce h1) (g.blt _ (by decide +kernel)) (by decide +kernel) (by decide +kernel) (by decide +kernel) ((sE (.acons a as)).a fn sc X g h2)) fun σ H Q h => by simpa only [evF] using h
    | _ => cases h3
  | lst as p =>
    simp only [E.wf] at w
    exact PE.weak (sf_lst ((sE as).a fn sc X g w)) fun σ H Q h => by simpa only [evF] using h
  | rep as b pl p =>
    simp only [E.wf, Bool.and_eq_true] at w
    exact PE.weak (sf_rep (sf_lst ((sE as).a fn sc X g w.1)) ((sE b).e fn sc X g w.2)) fun σ H Q h => by simpa only [evF] using h
  | lc own elt gt k it ifs scope p =>
    simp only [E.wf, Bool.and_eq_true] at w
    obtain ⟨⟨⟨⟨⟨⟨⟨h1, h2⟩, h3⟩, h4⟩, h5⟩, h6⟩, h7⟩, h8⟩ := w
    have ok : BlkOk N sc scope own := blkOk_by h4
    have ok' : BlkOk X.N X.env.scope scope own := by rw [g.Ne, g.sce]; exact ok
    have hs : ∀ i ∈ gt.slots, i ∈ own.map (·.2) := fun i hi => of_decide_eq_true (List.all_eq_true.mp h6 i hi)
    have b := fun s H C cl' fp => blk_gd g ok.kind s H C cl' fp
    have hi := si_it g h2 h3 ((sE it).e fn sc X g h1) ((sE it).a fn sc X g h1)
    have hg := fun s H C cl' fp => pg_ok (b s H C cl' fp) h5
    have ht := fun s H C cl' fp => (sE ifs).ts _ _ _ (b s H C cl' fp) h8
    have he := fun s H C cl' fp => (sE elt).e _ _ _ (b s H C cl' fp) h7
    have nd : X.N.Nodup := by rw [g.Ne]; exact g.nd
    exact PE.weak (pe_lc g.calm nd hi ok' hg ht he (un_fold k it _)) fun σ H Q h => sf_lc (p := p) g.calm nd ok' hs hi hg ht he (un_fold k it _) (by simpa only [evF] using h)
  | _ => exact bad fun _ _ => by simp only [evF]
/-- x = [..] -/
theorem ps_lc {own : List (Str × Nat)} {elt : E} {gt : G} {k : IK} {it ifs : E} {scope : Scope} {p px ps : Pos} {i : Nat} {x : Str} (g : Gd cA gc fs cl n N fn sc X) (w : (E.lc own elt gt k it ifs scope p).wf N fs sc = true) (hi' : N[i]? = some x) (hx : sc.names.lookup x = some .local)
    (hl : (px.line == p.line) = true) (ha : (scope.names.any fun (n, k) => n == x && (k == .local || k == .cell)) = false) :
    PS X (.Assign [.Name x px] (E.lc own elt gt k it ifs scope p).un ps) (tAsg (tF X.K cA (evF cl gc (.lc own elt gt k it ifs scope p))) (gName i)) := by
  simp only [E.wf, Bool.and_eq_true] at w
  obtain ⟨⟨⟨⟨⟨⟨⟨h1, h2⟩, h3⟩, h4⟩, h5⟩, h6⟩, h7⟩, h8⟩ := w
  have ok : BlkOk N sc scope own := blkOk_by h4
  have ok' : BlkOk X.N X.env.scope scope own := by rw [g.Ne, g.sce]; exact ok
  have hs : ∀ i ∈ gt.slots, i ∈ own.map (·.2) := fun i hi => of_decide_eq_true (List.all_eq_true.mp h6 i hi)
  have b := fun s H C cl' fp => blk_gd g ok.kind s H C cl' fp
  have hi := si_it g h2 h3 ((sE it).e fn sc X g h1) ((sE it).a fn sc X g h1)
  have hg := fun s H C cl' fp => pg_ok (b s H C cl' fp) h5
  have ht := fun s H C cl' fp => (sE ifs).ts _ _ _ (b s H C cl' fp) h8
  have he := fun s H C cl' fp => (sE elt).e _ _ _ (b s H C cl' fp) h7
  have nd : X.N.Nodup := by rw [g.Ne]; exact g.nd
  refine PS.weak (ps_setLc (i := i) (g := gt.tg X.K) (tt := tT X.K cA (evTs cl gc ifs)) (te := tE X.K cA (evE cl gc elt)) g.calm nd (by rw [g.Ne]; exact hi') (by rw [g.sce]; exact hx) (sw_true (by rw [g.sce]; exact g.kd) (by rw [g.sce]; exact hx) hl ha) hi ok' hg ht he (un_fold k it _)) fun D σ H h => ?_
  simp only [evF] at h
  exact sf_lc (p := p) g.calm nd ok' hs hi hg ht he (un_fold k it _) h
theorem ps_name {e : E} {x : Str} {px ps : Pos} {i : Nat} {t : TE} (g : Gd cA gc fs cl n N fn sc X) (h : PE X e.un t) (hn : e.isLc = false) (ho : nmOk N fn sc i x = true) : PS X (.Assign [.Name x px] e.un ps) (tAsg t (gName i)) := by
  simp only [nmOk, Bool.and_eq_true, decide_eq_true_eq, Bool.or_eq_true] at ho
  obtain ⟨⟨h1, h2⟩, h3⟩ := ho
  have nd : X.N.Nodup := by rw [g.Ne]; exact g.nd
  exact ps_set nd (by rw [g.Ne]; exact h1) (by rw [g.sce]; exact loc_ok h2) h (by cases e <;> first | rfl | cases hn) (by rw [g.fne, g.sce]; exact h3)
/-- the name takes the value -/
theorem asg_set {m : EM} {i : Nat} {D : Ends} {σ : LSt} {H : Hp} (h : tS X.K cA (fun τ S => match m τ S with
    | .ok w S1 => .nx (τ.set i (some w)) S1
    | .bad => .bad) D σ H) : tAsg (tE X.K cA m) (gName i) D σ H := by
  obtain ⟨ρ, τ, S, sm, r, h⟩ := h
  refine ⟨ρ, τ, S, sm, r, ?_⟩
  dsimp only at h
  cases q : m τ S with
  | bad => rw [q] at h; exact h
  | ok w S1 =>
    rw [q] at h
    exact fun ρ' H' v x sm' rv => h _ _ _ x sm' ((r.ext x).set rv i)
/-- .. a new list, in the store -/
theorem asg_mut {m : LM} {i : Nat} {D : Ends} {σ : LSt} {H : Hp} (h : tS X.K cA (fun τ S => match m τ S with
    | .ok xs S1 => .nx (τ.set i (some (.ref S1.length))) (S1 ++ [.lst xs])
    | .bad => .bad) D σ H) : tAsg (tF X.K cA m) (gName i) D σ H := by
  obtain ⟨ρ, τ, S, sm, r, h⟩ := h
  refine ⟨ρ, τ, S, sm, r, ?_⟩
  dsimp only at h
  cases q : m τ S with
  | bad => rw [q] at h; exact h
  | ok xs S1 =>
    rw [q] at h
    intro ρ' H' vs p x sm' rv hp
    obtain ⟨s2, e2⟩ := sm'.push (p := p) (o := .lst vs) (ob := .lst xs) hp ⟨vs, upd_same, rv⟩
    refine h _ _ _ (x.trans e2) s2 (((r.ext x).ext e2).set (.ref ?_) i)
    rw [← sm'.len]
    simp
theorem asg_frz {m : LM} {i : Nat} {D : Ends} {σ : LSt} {H : Hp} (h : tS X.K cA (fun τ S => match frzL (m τ S) with
    | .ok w S1 => .nx (τ.set i (some w)) S1
    | .bad => .bad) D σ H) : tAsg (tF X.K cA m) (gName i) D σ H := by
  obtain ⟨ρ, τ, S, sm, r, h⟩ := h
  refine ⟨ρ, τ, S, sm, r, ?_⟩
  dsimp only at h
  cases q : m τ S with
  | bad => rw [q] at h; exact h
  | ok xs S1 =>
    rw [q] at h
    intro ρ' H' vs p x sm' rv hp
    obtain ⟨s2, e2, f2⟩ := sm'.laid (o := .lst vs) hp
    exact h _ _ _ (x.trans e2) s2 (((r.ext x).ext e2).set (.d (.lst (.inl (.inl f2)) (rv.mono e2.same))) i)
theorem evE_lc {own : List (Str × Nat)} {elt : E} {gt : G} {k : IK} {it ifs : E} {scope : Scope} {p : Pos} : evE cl gc (.lc own elt gt k it ifs scope p) = fun τ S => frzL (evF cl gc (.lc own elt gt k it ifs scope p) τ S) := by
  simp only [evE, evF]
end
end TM

set_option Elab.async false
set_option linter.all false
set_option maxRecDepth 100000
set_option maxHeartbeats 400000
namespace TM
open PySem PySem.Spec PyProof.Rows L2
/-- a, b = x, y: the machine stores from the right -/
def parOk (sc : Scope) (x y : Str) (px py : Pos) (a b : E) : Bool :=
  decide (sc.names.lookup x = some .local) && decide (sc.names.lookup y = some .local) && (px.line == py.line) && !(x == y) && !([a.un, b.un].all (foldedForSure 8)) && !([a.un, b.un].all (constantsAlone 8))
def E.noTup : E → Bool
  | .tup _ _ _ => false
  | _ => true
def C.isL : C → Bool
  | .nil => true
  | .cons _ _ => true
  | _ => false
def C.wf (N : List Str) (fs : Str → Bool) (sc : Scope) : C → Bool
  | .nil => true
  | .cons s r => s.wf N fs sc && r.wf N fs sc && !s.isL && r.isL
  | .set i x px e _ => e.wf N fs sc && nmOk N (fun _ => true) sc i x && swOk sc x px e
  | .setm i x px e _ => e.wf N fs sc && nmOk N (fun _ => true) sc i x && swOk sc x px e
  | .setg gs _ _ e _ => e.wf N fs sc && (gs.all fun g => nmOk N (fun _ => true) sc g.1 g.2.1) && !e.isLc && e.noTup
  | .par i x px j y py _ _ _ a _ b _ _ _ => a.wf N fs sc && b.wf N fs sc && nmOk N (fun _ => true) sc i x && nmOk N (fun _ => true) sc j y && decide (i ≠ j) && parOk sc x y px py a b
  | .aug i x _ o e _ => e.wf N fs sc && nmOk N (fun _ => true) sc i x && decide (o = .Add)
  | .sub o i e _ _ => o.wf N fs sc && i.wf N fs sc && e.wf N fs sc && !e.isLc
  | .expr e _ => e.wf N fs sc && !e.isLc
  | .ret e _ => e.wf N fs sc
  | .retm e _ => e.wf N fs sc
  | .retN _ => true
  | .iff c a b _ => c.wf N fs sc && a.wf N fs sc && b.wf N fs sc && a.isL && b.isL
  | .whl c b _ => c.wf N fs sc && b.wf N fs sc && b.isL
  | .for_ g k it b _ => it.wf N fs sc && k.wf sc it && k.tup g && g.wf N (fun _ => true) sc && b.wf N fs sc && b.isL
  | .brk _ => true
  | .cnt _ => true
  | .pass _ => true
  | .dead _ => true
section
variable {cA : CA} {gc : Str → Option D} {fs : Str → Bool} {cl : CallO} {n : Nat} {N : List Str} {sc : Scope} {X : Cx}
theorem swap_ok {x y : Str} {px py pt pe : Pos} {kt k2 : Nat} {a b : E} {env : Env} (he : env.scope = sc) (hk : sc.kind = .function) (h : parOk sc x y px py a b = true) :
    swappedStores [.Tuple [.Name x px, .Name y py] kt pt] (.Tuple [a.un, b.un] k2 pe) env = pure (some [x, y]) := by
  simp only [parOk, Bool.and_eq_true, decide_eq_true_eq, Bool.not_eq_true'] at h
  obtain ⟨⟨⟨⟨⟨h1, h2⟩, h3⟩, h4⟩, h5⟩, h6⟩ := h
  have kx : env.kindOf x = some .local := by show env.scope.names.lookup x = _; rw [he]; exact h1
  have ky : env.kindOf y = some .local := by show env.scope.names.lookup y = _; rw [he]; exact h2
  have hb : env.blockKind = .function := by unfold Env.blockKind; rw [he, hk]; rfl
  have ns : ∀ c : E, (match c.un with | .Starred .. => true | _ => false) = false := fun c => by cases c <;> rfl
  have h3' : py.line = px.line := (eq_of_beq h3).symm
  unfold swappedStores
  simp [hb, kx, ky, Expr.pos, h3', h5, h6, List.filterMap]
  rw [if_neg (by
    rintro (q | q)
    · cases a <;> cases q
    · cases b <;> cases q)]
  have e : [x, y].eraseDups.length = 2 := by
    have ne : (y == x) = false := by
      rw [beq_eq_false_iff_ne] at h4 ⊢
      exact fun z => h4 z.symm
    simp [List.eraseDups_cons, ne]
  rw [if_pos e]
/-! ### statements -/
theorem whlN_mono (c : BM) (b : SM) : ∀ {k : Nat} {τ : Sg} {S : Sto}, whlN c b k τ S ≠ .bad → whlN c b (k + 1) τ S = whlN c b k τ S
  | 0, _, _, h => (h rfl).elim
  | k + 1, τ, S, h => by
    rw [show whlN c b (k + 1 + 1) τ S = (match c τ S with
      | .ok true S1 => (match b τ S1 with
        | .nx τ' S' => whlN c b (k + 1) τ' S'
        | .ct τ' S' => whlN c b (k + 1) τ' S'
        | .bk τ' S' => .nx τ' S'
        | .rt w S' => .rt w S'
        | .bad => .bad)
      | .ok false S1 => .nx τ S1
      | .bad => .bad) from rfl]
    rw [show whlN c b (k + 1) τ S = (match c τ S with
      | .ok true S1 => (match b τ S1 with
        | .nx τ' S' => whlN c b k τ' S'
        | .ct τ' S' => whlN c b k τ' S'
        | .bk τ' S' => .nx τ' S'
        | .rt w S' => .rt w S'
        | .bad => .bad)
      | .ok false S1 => .nx τ S1
      | .bad => .bad) from rfl] at h ⊢
    cases e : c τ S with
    | bad => rfl
    | ok v S1 =>
      cases v with
      | false => rfl
      | true =>
        rw [e] at h
        simp only at h ⊢
        cases e2 : b τ S1 with
        | nx τ' S' => rw [e2] at h; exact whlN_mono c b h
        | ct τ' S' => rw [e2] at h; exact whlN_mono c b h
        | bk τ' S' => rfl
        | rt w S' => rfl
        | bad => rfl
theorem whlN_le (c : BM) (b : SM) {k : Nat} {τ : Sg} {S : Sto} (h : whlN c b k τ S ≠ .bad) : ∀ j : Nat, whlN c b (k + j) τ S = whlN c b k τ S
  | 0 => rfl
  | j + 1 => by
    have ih := whlN_le c b h j
    rw [← Nat.add_assoc, whlN_mono c b (by rw [ih]; exact h), ih]
theorem whlE_of (c : BM) (b : SM) {k : Nat} {τ : Sg} {S : Sto} (h : whlN c b k τ S ≠ .bad) : whlE c b τ S = whlN c b k τ S := by
  have ex : ∃ n, whlN c b n τ S ≠ .bad := ⟨k, h⟩
  unfold whlE
  rw [dif_pos ex]
  have h2 := ex.choose_spec
  rcases Nat.le_total k ex.choose with l | l
  · obtain ⟨j, e⟩ := Nat.exists_eq_add_of_le l
    rw [e]
    exact whlN_le c b h j
  · obtain ⟨j, e⟩ := Nat.exists_eq_add_of_le l
    have z := whlN_le c b h2 j
    rw [← e] at z
    exact z.symm
/-- a while, one turn taken out -/
theorem whlE_eq (c : BM) (b : SM) (τ : Sg) (S : Sto) : whlE c b τ S = (match c τ S with
    | .ok true S1 => (match b τ S1 with
      | .nx τ' S' => whlE c b τ' S'
      | .ct τ' S' => whlE c b τ' S'
      | .bk τ' S' => .nx τ' S'
      | .rt w S' => .rt w S'
      | .bad => .bad)
    | .ok false S1 => .nx τ S1
    | .bad => .bad) := by
  have step : ∀ k τ S, whlN c b (k + 1) τ S = (match c τ S with
    | .ok true S1 => (match b τ S1 with
      | .nx τ' S' => whlN c b k τ' S'
      | .ct τ' S' => whlN c b k τ' S'
      | .bk τ' S' => .nx τ' S'
      | .rt w S' => .rt w S'
      | .bad => .bad)
    | .ok false S1 => .nx τ S1
    | .bad => .bad) := fun _ _ _ => rfl
  have inner : ∀ τ S, whlE c b τ S ≠ .bad → ∃ k, whlN c b k τ S = whlE c b τ S ∧ whlN c b k τ S ≠ .bad := fun τ S h => by
    by_cases ex : ∃ n, whlN c b n τ S ≠ .bad
    · obtain ⟨k, hk⟩ := ex
      exact ⟨k, (whlE_of c b hk).symm, hk⟩
    · unfold whlE at h
      rw [dif_neg ex] at h
      exact (h rfl).elim
  have back : ∀ τ S, whlE c b τ S = .bad → ∀ k, whlN c b k τ S = .bad := fun τ S h k => by
    by_cases q : whlN c b k τ S = .bad
    · exact q
    · exact absurd ((whlE_of c b q).symm.trans h) q
  cases e : c τ S with
  | bad =>
    have z : ∀ k, whlN c b k τ S = .bad := fun k => by cases k with
      | zero => rfl
      | succ k => rw [step, e]
    unfold whlE
    rw [dif_neg (fun ⟨k, q⟩ => q (z k))]
  | ok v S1 =>
    cases v with
    | false =>
      have z : whlN c b 1 τ S = .nx τ S1 := by rw [step, e]
      exact (whlE_of c b (k := 1) (by rw [z]; exact fun q => nomatch q)).trans z
    | true =>
      simp only
      have loop : ∀ τ' S', (∀ k, whlN c b (k + 1) τ S = whlN c b k τ' S') → whlE c b τ S = whlE c b τ' S' := fun τ' S' hs => by
        by_cases q : whlE c b τ' S' = .bad
        · have z := back _ _ q
          rw [q]
          unfold whlE
          rw [dif_neg]
          rintro ⟨k, hk⟩
          cases k with
          | zero => exact hk rfl
          | succ k => exact hk (by rw [hs]; exact z k)
        · obtain ⟨k, h1, h2⟩ := inner _ _ q
          rw [← h1, ← hs]
          exact whlE_of c b (by rw [hs]; exact h2)
      cases e2 : b τ S1 with
      | nx τ' S' => exact loop τ' S' fun k => by rw [step, e]; simp only [e2]
      | ct τ' S' => exact loop τ' S' fun k => by rw [step, e]; simp only [e2]
      | bk τ' S' =>
        have z : whlN c b 1 τ S = .nx τ' S' := by rw [step, e]; simp only [e2]
        exact (whlE_of c b (k := 1) (by rw [z]; exact fun q => nomatch q)).trans z
      | rt w S' =>
        have z : whlN c b 1 τ S = .rt w S' := by rw [step, e]; simp only [e2]
        exact (whlE_of c b (k := 1) (by rw [z]; exact fun q => nomatch q)).trans z
      | bad =>
        have z : ∀ k, whlN c b k τ S = .bad := fun k => by cases k with
          | zero => rfl
          | succ k => rw [step, e]; simp only [e2]
        unfold whlE
        rw [dif_neg (fun ⟨k, q⟩ => q (z k))]
end
end TM

set_option Elab.async false
set_option linter.all false
set_option maxRecDepth 100000
set_option maxHeartbeats 400000
namespace TM
open PySem PySem.Spec PyProof.Rows L2
section
variable {cA : CA} {gc : Str → Option D} {fs : Str → Bool} {cl : CallO} {n : Nat} {N : List Str} {sc : Scope} {X : Cx}
theorem ps_bad {st : Stmt} {m : SM} (h : ∀ τ S, m τ S = .bad) : PS X st (tS X.K cA m) := ⟨fun pins s σ H D I q => by
  obtain ⟨ρ, τ, S, _, _, z⟩ := q
  rw [h] at z
  exact z.elim⟩
/-- a while -/
theorem ss_whl {c : Expr} {body : List Stmt} {mc : BM} {mb : SM} {p : Pos} (hx : X.xe = fun _ _ => False) (hc : PT X c (tT X.K cA mc)) (hb : PSs X body (tS X.K cA mb)) : PS X (.While c body [] p) (tS X.K cA fun τ S => whlE mc mb τ S) := by
  refine PS.weak (ps_while (by rw [hx]; exact PassesOwn.never) hc hb) fun D σ H h => ?_
  obtain ⟨ρ, τ, S, sm, r, h⟩ := h
  have nb : whlE mc mb τ S ≠ .bad := fun z => by
    dsimp only at h
    rw [z] at h
    exact h
  have ex : ∃ k, whlN mc mb k τ S = whlE mc mb τ S := by
    by_cases q : ∃ k, whlN mc mb k τ S ≠ .bad
    · obtain ⟨k, hk⟩ := q
      exact ⟨k, (whlE_of mc mb hk).symm⟩
    · exact (nb (by unfold whlE; rw [dif_neg q])).elim
  obtain ⟨k0, e0⟩ := ex
  dsimp only at h
  rw [← e0] at h
  refine ⟨fun m σ H => ∃ ρ τ S, Sm X.K cA ρ S H ∧ Ros X.K cA ρ (Fz ρ H) τ σ ∧ PostS X.K cA ρ H D (whlN mc mb m τ S), ⟨k0, ρ, τ, S, sm, r, h⟩, ?_⟩
  rintro m σ H ⟨ρ, τ, S, sm, r, h⟩
  cases m with
  | zero => exact (show False from h).elim
  | succ k =>
    simp only [whlN] at h
    refine ⟨ρ, τ, S, sm, r, ?_⟩
    cases e : mc τ S with
    | bad => rw [e] at h; exact h
    | ok v S1 =>
      rw [e] at h
      intro ρ1 H1 x1 sm1
      cases v with
      | false =>
        rw [if_neg Bool.false_ne_true]
        exact h _ _ _ x1 sm1 (r.ext x1)
      | true =>
        rw [if_pos rfl]
        refine ⟨fun σ' H' => ∃ ρ τ S, Sm X.K cA ρ S H' ∧ Ros X.K cA ρ (Fz ρ H') τ σ' ∧ PostS X.K cA ρ H' D (whlN mc mb k τ S), fun σ' H' q => ⟨k, Nat.lt_succ_self k, q⟩, ρ1, τ, S1, sm1, r.ext x1, ?_⟩
        simp only at h
        cases e2 : mb τ S1 with
        | nx τ' S' => rw [e2] at h; exact fun ρ2 H2 σ2 x2 sm2 r2 => ⟨ρ2, τ', S', sm2, r2, PostS.ext (x1.trans x2) h⟩
        | ct τ' S' => rw [e2] at h; exact fun ρ2 H2 σ2 x2 sm2 r2 => ⟨ρ2, τ', S', sm2, r2, PostS.ext (x1.trans x2) h⟩
        | bk τ' S' => rw [e2] at h; exact fun ρ2 H2 σ2 x2 sm2 r2 => h _ _ _ (x1.trans x2) sm2 r2
        | rt w S' => rw [e2] at h; exact fun ρ2 H2 v2 x2 sm2 r2 => h _ _ _ (x1.trans x2) sm2 r2
        | bad => rw [e2] at h; exact h
theorem ss_for {g : G} {it : Expr} {body : List Stmt} {mi : Sg → Sto → R Iv} {mb : SM} {p : Pos} (hx : X.xe = fun _ _ => False) (hc : X.calm = true) (hi : PI X g.un it (tI X.K cA mi)) (hg : PG X g.un (g.tg X.K)) (hb : PSs X body (tS X.K cA mb)) (hf : ∀ x, foldedSetIterable it X.env x = pure x) :
    PS X (.For g.un it body [] p) (tS X.K cA fun τ S => forE g mb (mi τ S) τ) := by
  refine PS.weak (ps_for (by rw [hx]; exact PassesOwn.never) hc hi hg hb hf) fun D σ H h => ?_
  obtain ⟨ρ, τ, S, sm, r, h⟩ := h
  refine ⟨ρ, τ, S, sm, r, ?_⟩
  dsimp only at h
  cases e : mi τ S with
  | bad => rw [e] at h; exact h
  | ok iv S1 =>
    rw [e] at h
    simp only [forE] at h
    intro ρ1 H1 J x1 sm1 wk
    refine ⟨fun i m σ' H' => i + m = iv.ds.length ∧ ∃ ρ' τ' S', Ext ρ1 H1 ρ' H' ∧ Sm X.K cA ρ' S' H' ∧ Ros X.K cA ρ' (Fz ρ' H') τ' σ' ∧ PostS X.K cA ρ H D (forX iv.gd (forB g mb) (iv.ds.drop i) τ' S'), ⟨iv.ds.length, by omega, ρ1, τ, S1, Ext.refl _ _, sm1, r.ext x1, h⟩, ?_⟩
    rintro i m σ' H' ⟨him, ρ', τ', S', x', sm', r', hp⟩
    by_cases hlt : i < iv.ds.length
    · have ed : iv.ds[i]? = some iv.ds[i] := List.getElem?_eq_getElem hlt
      rw [List.drop_eq_getElem_cons hlt] at hp
      simp only [forX] at hp
      split at hp
      case isFalse => exact (show False from hp).elim
      rename_i hgd
      refine .inr ⟨wk.go ρ' H' S' x' sm' hgd i _ ed, fun σ4 H4 => ∃ ρ4 τ4 S4, Ext ρ1 H1 ρ4 H4 ∧ Sm X.K cA ρ4 S4 H4 ∧ Ros X.K cA ρ4 (Fz ρ4 H4) τ4 σ4 ∧ PostS X.K cA ρ H D (forX iv.gd (forB g mb) (iv.ds.drop (i + 1)) τ4 S4),
        fun σ4 H4 q => ⟨m - 1, by omega, by omega, q⟩, fun x Hy hy => ?_⟩
      obtain ⟨smy, xy, ry⟩ := wk.yld ρ' H' S' x' sm' hgd i _ x Hy ed hy
      cases eg : g.go (.d iv.ds[i]) τ' with
      | none => simp only [forB, eg] at hp; exact (show False from hp).elim
      | some τ1 =>
        simp only [forB, eg] at hp
        refine tg_ok (.d ry) (r'.ext xy) eg fun σ1 r1 _ => ⟨ρ', τ1, S', smy, r1, ?_⟩
        have x2 := x'.trans xy
        cases e2 : mb τ1 S' with
        | nx τ2 S2 => rw [e2] at hp; exact fun ρ3 H3 σ3 x3 sm3 r3 => ⟨ρ3, τ2, S2, x2.trans x3, sm3, r3, hp⟩
        | ct τ2 S2 => rw [e2] at hp; exact fun ρ3 H3 σ3 x3 sm3 r3 => ⟨ρ3, τ2, S2, x2.trans x3, sm3, r3, hp⟩
        | bk τ2 S2 => rw [e2] at hp; exact fun ρ3 H3 σ3 x3 sm3 r3 => hp _ _ _ (x1.trans (x2.trans x3)) sm3 r3
        | rt w S2 => rw [e2] at hp; exact fun ρ3 H3 v3 x3 sm3 r3 => hp _ _ _ (x1.trans (x2.trans x3)) sm3 r3
        | bad => rw [e2] at hp; exact hp
    · have e0 : iv.ds.drop i = [] := List.drop_eq_nil_of_le (by omega)
      rw [e0] at hp
      simp only [forX] at hp
      split at hp
      case isFalse => exact (show False from hp).elim
      rename_i hgd
      exact .inl ⟨wk.stop ρ' H' S' x' sm' hgd i (by omega), hp _ _ _ (x1.trans x') sm' r'⟩
/-- o[i] = e -/
def PostU (K : PySem.W.Frag) (cA : CA) (ρ : List Addr) (H : Hp) (Q : List Addr → Sto → Hp → Prop) : R Unit → Prop
  | .ok _ S' => ∀ ρ' H', Ext ρ H ρ' H' → Sm K cA ρ' S' H' → Q ρ' S' H'
  | .bad => False
def rSub (K : PySem.W.Frag) (cA : CA) : TSet := fun o i v H Q => ∃ ρ wo wi wv S, Sm K cA ρ S H ∧ Rw K cA ρ (Fz ρ H) wo o ∧ Rw K cA ρ (Fz ρ H) wi i ∧ Rw K cA ρ (Fz ρ H) wv v ∧ PostU K cA ρ H (fun _ _ H' => Q H') (subE wo wi wv S)
theorem set_sub : PSet X (rSub X.K cA) := by
  intro pins s σ H o i v ov iv u Q I ro ri rv h
  obtain ⟨ρ, wo, wi, wv, S, sm, r1, r2, r3, h⟩ := h
  unfold subE at h
  split at h
  · cases r1 with | ref ea => ?_
    rename_i nn k x a
    cases r2.int'
    cases r3 with | d r3 => ?_
    split at h
    · rename_i xs eb
      obtain ⟨vs, h1, h2⟩ := sm.ob _ _ _ eb ea
      split at h
      · rename_i j ej
        refine set_list pins s σ H _ _ v ov iv u Q I ro ri rv ⟨a, vs, k, j, rfl, rfl, h1, by rw [← h2.length]; exact ej, ?_⟩
        obtain ⟨s2, e2⟩ := sm.write (n := nn) (ob := .lst (xs.set j x)) (o := .lst (vs.set j v)) ea ⟨_, upd_same, h2.set r3 j⟩
        exact h _ _ e2 s2
      · exact (show False from h).elim
    · exact (show False from h).elim
  · exact (show False from h).elim
theorem ss_sub {o i e : E} {ps p : Pos} {mo mi me : EM} (ho : PE X o.un (tE X.K cA mo)) (hi : PE X i.un (tE X.K cA mi)) (he : PE X e.un (tE X.K cA me)) (hn : e.isLc = false) :
    PS X (.Assign [.Subscript o.un i.un ps] e.un p) (tS X.K cA fun τ S => match (me τ S).bnd fun y S1 => (mo τ S1).bnd fun x S2 => (mi τ S2).bnd fun k S3 => subE x k y S3 with
      | .ok _ S1 => .nx τ S1
      | .bad => .bad) := by
  refine PS.weak (ps_asg he (pg_sub ho hi (set_sub (cA := cA)) (fun v => by cases i <;> rfl)) (by cases e <;> first | rfl | cases hn) (by cases e <;> rfl) rfl) fun D σ H h => ?_
  obtain ⟨ρ, τ, S, sm, r, h⟩ := h
  have h : PostU X.K cA ρ H (fun ρ' S' H' => ∀ σ, Ros X.K cA ρ' (Fz ρ' H') τ σ → D.nx σ H') ((me τ S).bnd fun y S1 => (mo τ S1).bnd fun x S2 => (mi τ S2).bnd fun k S3 => subE x k y S3) := by
    dsimp only at h
    generalize ((me τ S).bnd fun y S1 => (mo τ S1).bnd fun x S2 => (mi τ S2).bnd fun k S3 => subE x k y S3) = z at h
    cases z with
    | ok u S1 => exact fun ρ' H' x s σ r => h _ _ _ x s r
    | bad => exact h
  refine tE_bnd sm r (P := PostU X.K cA ρ H (fun ρ' S' H' => ∀ σ, Ros X.K cA ρ' (Fz ρ' H') τ σ → D.nx σ H')) (fun z => z) h fun wv S1 ρ1 H1 v x1 sm1 rw1 r1 h1 => ?_
  refine tE_bnd sm1 r1 (P := PostU X.K cA ρ H (fun ρ' S' H' => ∀ σ, Ros X.K cA ρ' (Fz ρ' H') τ σ → D.nx σ H')) (fun z => z) h1 fun wo S2 ρ2 H2 v2 x2 sm2 rw2 r2 h2 => ?_
  refine tE_bnd sm2 r2 (P := PostU X.K cA ρ H (fun ρ' S' H' => ∀ σ, Ros X.K cA ρ' (Fz ρ' H') τ σ → D.nx σ H')) (fun z => z) h2 fun wi S3 ρ3 H3 v3 x3 sm3 rw3 r3 h3 => ?_
  refine ⟨ρ3, wo, wi, wv, S3, sm3, rw2.ext x3, rw3, (rw1.ext x2).ext x3, ?_⟩
  have x123 := (x1.trans x2).trans x3
  cases q : subE wo wi wv S3 with
  | bad => rw [q] at h3; exact h3
  | ok u S4 =>
    rw [q] at h3
    exact fun ρ4 H4 x4 sm4 => h3 ρ4 H4 (x123.trans x4) sm4 _ (r3.ext x4)
/-- a name op= e -/
theorem ss_aug {e : Expr} {me : EM} {i : Nat} {x : Str} {px p : Pos} (g : Gd cA gc fs cl n N (fun _ => true) sc X) (he : PE X e (tE X.K cA me)) (ho : nmOk N (fun _ => true) sc i x = true) :
    PS X (.AugAssign (.Name x px) .Add e p) (tS X.K cA fun τ S => match τ[i]? with
      | some (some w) => (match (me τ S).bnd fun y S1 => augE w y S1 with
        | .ok z S1 => .nx (τ.set i (some z)) S1
        | .bad => .bad)
      | _ => .bad) := by
  simp only [nmOk, Bool.and_eq_true, decide_eq_true_eq] at ho
  obtain ⟨⟨h1, h2⟩, _⟩ := ho
  have nd : X.N.Nodup := by rw [g.Ne]; exact g.nd
  refine PS.weak (ps_aug nd (by rw [g.Ne]; exact h1) (by rw [g.sce]; exact loc_ok h2) he ip_add (.inl (by rw [g.fne]))) fun D σ H h => ?_
  obtain ⟨ρ, τ, S, sm, r, h⟩ := h
  dsimp only at h
  split at h
  · rename_i w ew
    obtain ⟨v, ev, rv⟩ := r.get ew
    refine ⟨v, ev, ρ, τ, S, sm, r, ?_⟩
    cases q : me τ S with
    | bad => rw [q] at h; exact h
    | ok y S1 =>
      rw [q] at h
      intro ρ1 H1 v1 x1 sm1 rv1
      simp only [R.bnd_ok] at h
      cases hz : augE w y S1 with
      | bad => rw [hz] at h; exact (show False from h).elim
      | ok z S2 =>
        rw [hz] at h
        unfold augE at hz
        split at hz
        · cases hz
          cases rv.int'
          cases rv1.int'
          exact ⟨_, _, rfl, rfl, h _ _ _ x1 sm1 ((r.ext x1).set (.d (.int _)) i)⟩
        · cases hz
  · exact h.elim
theorem ss_par {a b : E} {ma mb : EM} {i j : Nat} {x y : Str} {px py pt pe p : Pos} {k k2 : Nat} (g : Gd cA gc fs cl n N (fun _ => true) sc X) (ha : PE X a.un (tE X.K cA ma)) (hb : PE X b.un (tE X.K cA mb)) (hi : N[i]? = some x) (hj : N[j]? = some y) (hij : i ≠ j) (hp : parOk sc x y px py a b = true) :
    PS X (.Assign [.Tuple [.Name x px, .Name y py] k pt] (.Tuple [a.un, b.un] k2 pe) p) (tS X.K cA fun τ S => match (ma τ S).bnd fun x S1 => (mb τ S1).bnd fun y S2 => .ok (x, y) S2 with
      | .ok z S1 => .nx ((τ.set i (some z.1)).set j (some z.2)) S1
      | .bad => .bad) := by
  have nd : X.N.Nodup := by rw [g.Ne]; exact g.nd
  have hw := swap_ok (kt := k) (pt := pt) (k2 := k2) (pe := pe) g.sce g.kd hp
  simp only [parOk, Bool.and_eq_true, decide_eq_true_eq] at hp
  obtain ⟨⟨⟨⟨⟨h1, h2⟩, _⟩, _⟩, _⟩, _⟩ := hp
  refine PS.weak (ps_par g.calm nd (by rw [g.Ne]; exact hi) (by rw [g.Ne]; exact hj) hij (by rw [g.sce]; exact h1) (by rw [g.sce]; exact h2) (pa_cons ha (pa_cons hb pa_nil (un_star b _ _)) (un_star a _ _)) hw rfl) fun D σ H h => ?_
  obtain ⟨ρ, τ, S, sm, r, h⟩ := h
  dsimp only at h
  refine ⟨ρ, τ, S, sm, r, ?_⟩
  cases q : ma τ S with
  | bad => rw [q] at h; exact h
  | ok w S1 =>
    rw [q] at h
    simp only [R.bnd_ok] at h
    intro ρ1 H1 v x1 sm1 rv
    refine ⟨ρ1, τ, S1, sm1, r.ext x1, ?_⟩
    cases q2 : mb τ S1 with
    | bad => rw [q2] at h; exact h
    | ok w2 S2 =>
      rw [q2] at h
      simp only [R.bnd_ok] at h
      intro ρ2 H2 v2 x2 sm2 rv2
      exact ⟨v, v2, rfl, h _ _ _ (x1.trans x2) sm2 ((((r.ext x1).ext x2).set (rv.ext x2) i).set rv2 j)⟩
theorem ss_setg {gs : List (Nat × Str × Pos)} {k : Nat} {pt p : Pos} {e : E} {me : EM} (g : Gd cA gc fs cl n N (fun _ => true) sc X) (he : PE X e.un (tE X.K cA me)) (hg : (G.tp gs k pt).wf N (fun _ => true) sc = true) (hn : e.isLc = false) (ht : e.noTup = true) :
    PS X (.Assign [(G.tp gs k pt).un] e.un p) (tS X.K cA fun τ S => match me τ S with
      | .ok w S1 => (match (G.tp gs k pt).go w τ with
        | some τ1 => .nx τ1 S1
        | none => .bad)
      | .bad => .bad) := by
  refine PS.weak (ps_asg he (pg_ok g hg) (by cases e <;> first | rfl | cases hn) (by cases e <;> first | rfl | cases ht) rfl) fun D σ H h => ?_
  obtain ⟨ρ, τ, S, sm, r, h⟩ := h
  dsimp only at h
  refine ⟨ρ, τ, S, sm, r, ?_⟩
  cases q : me τ S with
  | bad => rw [q] at h; exact h
  | ok w S1 =>
    rw [q] at h
    simp only at h
    intro ρ1 H1 v x1 sm1 rv
    cases eg : (G.tp gs k pt).go w τ with
    | none => rw [eg] at h; exact (show False from h).elim
    | some τ1 =>
      rw [eg] at h
      exact tg_ok rv (r.ext x1) eg fun σ1 r1 _ => h _ _ _ x1 sm1 r1
theorem sM (f : Bool) (e : E) (g : Gd cA gc fs cl n N (fun _ => true) sc X) (w : e.wf N fs sc = true) : PE X e.un (tE X.K cA (evM cl gc f e)) := by
  cases f with
  | false => exact (sE e).e _ sc X g w
  | true =>
    refine PE.weak (sF e g w) fun σ H Q h => ?_
    obtain ⟨ρ, τ, S, sm, r, h⟩ := h
    refine ⟨ρ, τ, S, sm, r, ?_⟩
    simp only [evM, if_pos] at h
    cases q : evF cl gc e τ S with
    | bad => rw [q] at h; exact h
    | ok xs S1 =>
      rw [q] at h
      intro ρ' H' vs l x sm' rv hp
      obtain ⟨s2, e2⟩ := sm'.push (p := l) (o := .lst vs) (ob := .lst xs) hp ⟨vs, upd_same, rv⟩
      refine h _ _ _ (x.trans e2) s2 (.ref ?_)
      rw [← sm'.len]
      simp
/-- statements -/
structure OkS (cA : CA) (gc : Str → Option D) (fs : Str → Bool) (cl : CallO) (n : Nat) (N : List Str) (sc : Scope) (X : Cx) (c : C) : Prop where
  s : c.wf N fs sc = true → c.isL = false → PS X c.un (tS X.K cA (evS cl gc c))
  ss : c.wf N fs sc = true → c.isL = true → PSs X c.uns (tS X.K cA (evS cl gc c))
theorem sS (g : Gd cA gc fs cl n N (fun _ => true) sc X) : ∀ c : C, OkS cA gc fs cl n N sc X c := by
  intro c
  induction c with
  | nil =>
    refine ⟨(fun _ h => nomatch h), fun _ _ => PSs.weak pss_nil fun D σ H h => ?_⟩
    obtain ⟨ρ, τ, S, sm, r, h⟩ := h
    simp only [evS] at h
    exact h _ _ _ (Ext.refl _ _) sm r
  | cons s r ihs ihr =>
    refine ⟨(fun _ h => nomatch h), fun w _ => ?_⟩
    simp only [C.wf, Bool.and_eq_true, Bool.not_eq_true'] at w
    obtain ⟨⟨⟨h1, h2⟩, h3⟩, h4⟩ := w
    refine PSs.weak (pss_cons (ihs.s h1 h3) (ihr.ss h2 h4)) fun D σ H h => ?_
    obtain ⟨ρ, τ, S, sm, rr, h⟩ := h
    simp only [evS] at h
    refine ⟨ρ, τ, S, sm, rr, ?_⟩
    cases q : evS cl gc s τ S with
    | nx τ' S' =>
      rw [q] at h
      exact fun ρ1 H1 σ1 x1 sm1 r1 => ⟨ρ1, τ', S', sm1, r1, PostS.ext x1 h⟩
    | bk τ' S' => rw [q] at h; exact h
    | ct τ' S' => rw [q] at h; exact h
    | rt w S' => rw [q] at h; exact h
    | bad => rw [q] at h; exact h
  | set i x px e p =>
    refine ⟨fun w _ => ?_, fun _ h => nomatch h⟩
    simp only [C.wf, Bool.and_eq_true] at w
    obtain ⟨⟨h1, h2⟩, h3⟩ := w
    cases hl : e.isLc with
    | false => exact PS.weak (ps_name g ((sE e).e _ sc X g h1) hl h2) fun D σ H h => asg_set (by simp only [evS] at h; exact h)
    | true =>
      cases e with
      | lc own elt gt k it ifs scope pl =>
        simp only [swOk, Bool.and_eq_true, decide_eq_true_eq, Bool.not_eq_true'] at h3
        simp only [nmOk, Bool.and_eq_true, decide_eq_true_eq] at h2
        refine PS.weak (ps_lc g h1 h2.1.1 h3.1.1 h3.1.2 h3.2) fun D σ H h => asg_frz ?_
        simp only [evS] at h
        rw [evE_lc] at h
        exact h
      | _ => cases hl
  | setm i x px e p =>
    refine ⟨fun w _ => ?_, fun _ h => nomatch h⟩
    simp only [C.wf, Bool.and_eq_true] at w
    obtain ⟨⟨h1, h2⟩, h3⟩ := w
    cases hl : e.isLc with
    | false => exact PS.weak (ps_name g (sF e g h1) hl h2) fun D σ H h => asg_mut (by simp only [evS] at h; exact h)
    | true =>
      cases e with
      | lc own elt gt k it ifs scope pl =>
        simp only [swOk, Bool.and_eq_true, decide_eq_true_eq, Bool.not_eq_true'] at h3
        simp only [nmOk, Bool.and_eq_true, decide_eq_true_eq] at h2
        exact PS.weak (ps_lc g h1 h2.1.1 h3.1.1 h3.1.2 h3.2) fun D σ H h => asg_mut (by simp only [evS] at h; exact h)
      | _ => cases hl
  | setg gs k pt e p =>
    refine ⟨fun w _ => ?_, fun _ h => nomatch h⟩
    simp only [C.wf, Bool.and_eq_true, Bool.not_eq_true'] at w
    obtain ⟨⟨⟨h1, h2⟩, h3⟩, h4⟩ := w
    exact PS.weak (ss_setg g ((sE e).e _ sc X g h1) h2 h3 h4) fun D σ H h => by simp only [evS] at h; exact h
  | par i x px j y py k pt fa a fb b k2 pe p =>
    refine ⟨fun w _ => ?_, fun _ h => nomatch h⟩
    simp only [C.wf, Bool.and_eq_true, decide_eq_true_eq] at w
    obtain ⟨⟨⟨⟨⟨h1, h2⟩, h3⟩, h4⟩, h5⟩, h6⟩ := w
    simp only [nmOk, Bool.and_eq_true, decide_eq_true_eq] at h3 h4
    exact PS.weak (ss_par g (sM fa a g h1) (sM fb b g h2) h3.1.1 h4.1.1 h5 h6) fun D σ H h => by simp only [evS] at h; exact h
  | aug i x px o e p =>
    refine ⟨fun w _ => ?_, fun _ h => nomatch h⟩
    simp only [C.wf, Bool.and_eq_true, decide_eq_true_eq] at w
    obtain ⟨⟨h1, h2⟩, rfl⟩ := w
    exact PS.weak (ss_aug g ((sE e).e _ sc X g h1) h2) fun D σ H h => by simp only [evS] at h; exact h
  | sub o i e ps p =>
    refine ⟨fun w _ => ?_, fun _ h => nomatch h⟩
    simp only [C.wf, Bool.and_eq_true, Bool.not_eq_true'] at w
    obtain ⟨⟨⟨h1, h2⟩, h3⟩, h4⟩ := w
    exact PS.weak (ss_sub ((sE o).e _ sc X g h1) ((sE i).e _ sc X g h2) ((sE e).e _ sc X g h3) h4) fun D σ H h => by simp only [evS] at h; exact h
  | expr e p =>
    refine ⟨fun w _ => ?_, fun _ h => nomatch h⟩
    simp only [C.wf, Bool.and_eq_true, Bool.not_eq_true'] at w
    refine PS.weak (ps_expr ((sE e).e _ sc X g w.1) (by cases e <;> first | rfl | cases w.2)) fun D σ H h => ?_
    obtain ⟨ρ, τ, S, sm, r, h⟩ := h
    simp only [evS] at h
    refine ⟨ρ, τ, S, sm, r, ?_⟩
    cases q : evE cl gc e τ S with
    | bad => rw [q] at h; exact h
    | ok v S1 => rw [q] at h; exact fun ρ1 H1 v1 x1 sm1 _ => h _ _ _ x1 sm1 (r.ext x1)
  | ret e p =>
    refine ⟨fun w _ => ?_, fun _ h => nomatch h⟩
    refine PS.weak (ps_ret ((sE e).e _ sc X g w)) fun D σ H h => ?_
    obtain ⟨ρ, τ, S, sm, r, h⟩ := h
    simp only [evS] at h
    refine ⟨ρ, τ, S, sm, r, ?_⟩
    cases q : evE cl gc e τ S with
    | bad => rw [q] at h; exact h
    | ok v S1 => rw [q] at h; exact h
  | retm e p =>
    refine ⟨fun w _ => ?_, fun _ h => nomatch h⟩
    refine PS.weak (ps_ret (sF e g w)) fun D σ H h => ?_
    obtain ⟨ρ, τ, S, sm, r, h⟩ := h
    simp only [evS] at h
    refine ⟨ρ, τ, S, sm, r, ?_⟩
    cases q : evF cl gc e τ S with
    | bad => rw [q] at h; exact h
    | ok xs S1 =>
      rw [q] at h
      intro ρ' H' vs l x sm' rv hp
      obtain ⟨s2, e2⟩ := sm'.push (p := l) (o := .lst vs) (ob := .lst xs) hp ⟨vs, upd_same, rv⟩
      refine h _ _ _ (x.trans e2) s2 (.ref ?_)
      rw [← sm'.len]
      simp
  | retN p =>
    refine ⟨fun w _ => PS.weak ps_retN fun D σ H h => ?_, fun _ h => nomatch h⟩
    obtain ⟨ρ, τ, S, sm, r, h⟩ := h
    simp only [evS] at h
    exact h _ _ _ (Ext.refl _ _) sm (.d .non)
  | iff c a b p iha ihb =>
    refine ⟨fun w _ => ?_, fun _ h => nomatch h⟩
    simp only [C.wf, Bool.and_eq_true] at w
    obtain ⟨⟨⟨⟨h1, h2⟩, h3⟩, h4⟩, h5⟩ := w
    refine PS.weak (ps_if ((sE c).t _ sc X g h1) (iha.ss h2 h4) (ihb.ss h3 h5)) fun D σ H h => ?_
    obtain ⟨ρ, τ, S, sm, r, h⟩ := h
    simp only [evS] at h
    refine ⟨ρ, τ, S, sm, r, ?_⟩
    dsimp only
    cases q : asB (evE cl gc c τ S) with
    | bad => rw [q] at h; exact h
    | ok v S1 =>
      rw [q] at h
      intro ρ1 H1 x1 sm1
      cases v with
      | true => exact ⟨ρ1, τ, S1, sm1, r.ext x1, PostS.ext x1 h⟩
      | false => exact ⟨ρ1, τ, S1, sm1, r.ext x1, PostS.ext x1 h⟩
  | whl c b p ihb =>
    refine ⟨fun w _ => ?_, fun _ h => nomatch h⟩
    simp only [C.wf, Bool.and_eq_true] at w
    exact PS.weak (ss_whl g.xe ((sE c).t _ sc X g w.1.1) (ihb.ss w.1.2 w.2)) fun D σ H h => by simp only [evS] at h; exact h
  | for_ gt k it b p ihb =>
    refine ⟨fun w _ => ?_, fun _ h => nomatch h⟩
    simp only [C.wf, Bool.and_eq_true] at w
    obtain ⟨⟨⟨⟨⟨h1, h2⟩, h3⟩, h4⟩, h5⟩, h6⟩ := w
    exact PS.weak (ss_for g.xe g.calm (si_it g h2 h3 ((sE it).e _ sc X g h1) ((sE it).a _ sc X g h1)) (pg_ok g h4) (ihb.ss h5 h6) (un_fold k it _)) fun D σ H h => by simp only [evS] at h; exact h
  | brk p =>
    refine ⟨fun w _ => PS.weak ps_break fun D σ H h => ?_, fun _ h => nomatch h⟩
    obtain ⟨ρ, τ, S, sm, r, h⟩ := h
    simp only [evS] at h
    exact h _ _ _ (Ext.refl _ _) sm r
  | cnt p =>
    refine ⟨fun w _ => PS.weak ps_continue fun D σ H h => ?_, fun _ h => nomatch h⟩
    obtain ⟨ρ, τ, S, sm, r, h⟩ := h
    simp only [evS] at h
    exact h _ _ _ (Ext.refl _ _) sm r
  | pass p =>
    refine ⟨fun w _ => PS.weak ps_pass fun D σ H h => ?_, fun _ h => nomatch h⟩
    obtain ⟨ρ, τ, S, sm, r, h⟩ := h
    simp only [evS] at h
    exact h _ _ _ (Ext.refl _ _) sm r
  | dead s => exact ⟨fun _ _ => ps_bad fun _ _ => by simp only [evS], fun _ h => nomatch h⟩
end
end TM

set_option Elab.async false
set_option linter.all false
set_option maxRecDepth 100000
set_option maxHeartbeats 400000
namespace TM
open PySem PySem.Spec PyProof.Rows L2
/-- a def's own look -/
def Fn.wf (F : Fn) (fs : Str → Bool) (st : Stmt) : Bool :=
  F.body.wf F.N fs (defScope st) && F.body.isL && decide (F.N.Nodup) && decide (F.N.take F.ps.length = F.ps) && (F.ps.all fun x => loc (defScope st) x) && ((defScope st).names.all fun y => !(y.2 == .free)) &&
    (match (defScope st).kind with | .function => true | _ => false) && !(defScope st).isCoroutine && !(defScope st).isGenerator
theorem leave_ok {K : PySem.W.Frag} {cA : CA} {ρ ρ' : List Addr} {H H' : Hp} {S' : Sto} {w : W} {v : V} {keep : Bool} {Q : VK} (x : Ext ρ H ρ' H') (sm : Sm K cA ρ' S' H') (rv : Rw K cA ρ' (Fz ρ' H') w v) (h : PostW K cA ρ H Q (leave ρ.length keep w S')) : Q v H' := by
  unfold leave at h
  split at h
  · exact h _ _ _ x sm rv
  · have sa : Same (Fz ρ' H') (Fz ρ H') := fun b o q => by
      have nb : b ∉ ρ' := fun z => by unfold Fz at q; rw [if_pos z] at q; cases q
      rw [Fz_of_not nb] at q
      rw [Fz_of_not (fun z => nb (x.pre.subset z))]
      exact q
    have sc' : Sm K cA ρ (S'.take ρ.length) H' := sm.cut x.pre (fun _ _ => rfl) sa
    have x' : Ext ρ H ρ H' := ⟨List.prefix_refl _, fun b o q => sa b o (x.same b o q)⟩
    cases rv with
    | d r => exact h _ _ _ x' sc' (.d (r.mono sa))
    | ref e =>
      rename_i k a
      simp only at h
      split at h
      · rename_i hk
        refine h _ _ _ x' sc' (.ref ?_)
        obtain ⟨t, rfl⟩ := x.pre
        rw [List.getElem?_append_left hk] at e
        exact e
      · rename_i hk
        have na : a ∉ ρ := fun z => by
          obtain ⟨t, rfl⟩ := x.pre
          obtain ⟨j, hj⟩ := List.getElem?_of_mem z
          have hj' : (ρ ++ t)[j]? = some a := by rw [List.getElem?_append_left (List.getElem?_eq_some_iff.mp hj).1]; exact hj
          have := nodup_ix' sm.nd e hj'
          have := (List.getElem?_eq_some_iff.mp hj).1
          omega
        split at h
        · rename_i xs es
          obtain ⟨vs, h1, h2⟩ := sm.ob _ _ _ es e
          exact h _ _ _ x' sc' (.d (.lst (.inl (.inl (by rw [Fz_of_not na]; exact h1))) (h2.mono sa)))
        · rename_i c f es
          obtain ⟨C, dx, gs, z, h1, h2⟩ := sm.ob _ _ _ es e
          exact h _ _ _ x' sc' (.d (.ins z (by rw [Fz_of_not na]; exact h1) (h2.mono sa)))
        · exact (show False from h).elim
theorem start_ros {K : PySem.W.Frag} {cA : CA} {ρ : List Addr} {F : Hp} : ∀ {ws : List W} {vs : List V} (k : Nat), Rws K cA ρ F ws vs → Ros K cA ρ F (ws.map some ++ List.replicate k none) (vs.map some ++ List.replicate k none)
  | _, _, 0, .nil => .nil
  | _, _, k + 1, .nil => .cons .none (start_ros (ws := []) (vs := []) k .nil)
  | _, _, k, .cons r t => .cons (.some r) (start_ros k t)
/-- what is known of the text's defs behind the top -/
structure Tab (K : PySem.W.Frag) (mg : Str → Option Value) (T : Str → Option Fn) (fs : Str → Bool) : Prop where
  fn : ∀ f F, T f = some F → ∃ (st : Stmt) (a : Addr) (fd : FuncData), Fun K f f st a fd ∧ F.wf fs st = true ∧ defBody st = F.body.uns ∧ mg f = some (.ref a) ∧ Binds K fd F.ps []
  fs : ∀ f, fs f = true → (T f).isSome = true
  blt : ∀ x ∈ bltNames, mg x = none
theorem fnscope_of {F : Fn} {fs : Str → Bool} {st : Stmt} (h : F.wf fs st = true) : FnScope F.N F.ps (defScope st) := by
  simp only [Fn.wf, Bool.and_eq_true, decide_eq_true_eq, Bool.not_eq_true'] at h
  obtain ⟨⟨⟨⟨⟨⟨⟨⟨h1, h2⟩, h3⟩, h4⟩, h5⟩, h6⟩, h7⟩, h8⟩, h9⟩ := h
  refine ⟨?_, h8, h9, h3, h4, fun x hx => loc_ok (List.all_eq_true.mp h5 x hx), fun y hy e => ?_⟩
  · split at h7
    · assumption
    · cases h7
  · have := List.all_eq_true.mp h6 y hy
    rw [e] at this
    cases this
theorem tab_fn {P : Program} {w : World} {K : PySem.W.Frag} {mg : Str → Option Value} {base : Heap} {cA : CA} {gc : Str → Option D} {T : Str → Option Fn} {fs : Str → Bool} (t : Tab K mg T fs) (hg : ∀ x d, gc x = some d → ∃ u v, mg x = some u ∧ RelV v u ∧ ∀ F, Rl K cA F d v) :
    ∀ (n : Nat) (f : Str) (F : Fn), T f = some F → ∀ (st : Stmt) (a : Addr) (fd : FuncData), Fun K f f st a fd → F.wf fs st = true → defBody st = F.body.uns → FnG P w K mg base n a fd F.ps (spO K cA (callI T gc n f)) := by
  intro n
  induction n with
  | zero =>
    intro f F hT st a fd hf hw hb
    exact ⟨fun vs H Q E h => by obtain ⟨ρ, ws, S, _, _, z⟩ := h; exact (show False from z).elim, fun A outer s H args us vs Q E _ _ _ _ _ h => by obtain ⟨ρ, ws, S, _, _, z⟩ := h; exact (show False from z).elim⟩
  | succ k ih =>
    intro f F hT st a fd hf hw hb
    have S := fnscope_of hw
    have run : ∀ ws S, callI T gc (k + 1) f ws S = F.run (callI T gc k) gc ws S := fun ws S => by simp only [callI, hT]
    have len : ∀ (vs : List V) (H : Hp) (Q : VK) (E : XK), spO K cA (callI T gc (k + 1) f) vs H Q E → vs.length = F.ps.length := by
      rintro vs H Q E ⟨ρ, ws, S0, sm, rw', h⟩
      rw [run] at h
      unfold Fn.run at h
      split at h
      · rename_i hl
        rw [← rw'.length]
        exact hl
      · exact (show False from h).elim
    refine fn_G hf S len fun cdv A outer s H vs Q E hr hgd hsp => ?_
    have gd : Gd cA gc fs (callI T gc k) k F.N (fun _ => true) (defScope st) (cxOf CX0 P w K mg base F.N f (defScope st) a cdv A outer s H E).nox :=
      { sce := rfl, kd := S.kind, Ne := rfl, nd := S.nd, calm := rfl, room := hr, grd := hgd, xe := rfl, fne := rfl, blt := t.blt,
        fns := fun f' hf' => by
          obtain ⟨F', hF'⟩ := Option.isSome_iff_exists.mp (t.fs f' hf')
          obtain ⟨st', a', fd', h1, h2, h3, h4, h5⟩ := t.fn f' F' hF'
          exact ⟨a', fd', F'.ps, ih f' F' hF' st' a' fd' h1 h2 h3, h4, h1.kp, h5⟩
        glo := hg }
    have hw' := hw
    simp only [Fn.wf, Bool.and_eq_true] at hw'
    have body := (sS gd F.body).ss hw'.1.1.1.1.1.1.1.1 hw'.1.1.1.1.1.1.1.2
    rw [← hb] at body
    refine ⟨_, body, ?_⟩
    obtain ⟨ρ, ws, S0, sm, rw', h⟩ := hsp
    rw [run] at h
    unfold Fn.run at h
    split at h
    case isFalse => exact (show False from h).elim
    rename_i hl
    have hlv : vs.length = ws.length := rw'.length.symm
    refine ⟨ρ, ws.map some ++ List.replicate (F.N.length - ws.length) none, S0, sm, ?_, ?_⟩
    · show Ros K cA ρ (Fz ρ H) _ (L2.start F.N vs)
      unfold L2.start
      rw [hlv]
      exact start_ros _ rw'
    · rw [← sm.len] at h
      show PostS K cA ρ H _ (evS (callI T gc k) gc F.body _ S0)
      generalize evS (callI T gc k) gc F.body (ws.map some ++ List.replicate (F.N.length - ws.length) none) S0 = fl at h ⊢
      cases fl with
      | rt w S' => exact fun ρ' H' v x sm' rv => leave_ok x sm' rv h
      | nx τ' S' => exact fun ρ' H' σ' x sm' _ => leave_ok x sm' (.d .non) h
      | bk => exact (show False from h).elim
      | ct => exact (show False from h).elim
      | bad => exact (show False from h).elim
/-- the law, for every script -/
theorem law_ok {K : PySem.W.Frag} {cA : CA} {T : Str → Option Fn} {gc : Str → Option D} {n : Nat} {f : Str} {H : Hp} {a : Addr} {ns : List Int} (hS : SqL K H a (ns.map V.int)) {S' : Sto} (h : callI T gc n f [.d (.lst (ns.map .int))] [] = .ok (.d (.bl true)) S') : spO K cA (callI T gc n f) [.ref a] H (fun v _ => v = .bl true) E0 := by
  have fz : Fz [] H = H := by funext b; unfold Fz; rw [if_neg (by simp)]
  refine ⟨[], [.d (.lst (ns.map .int))], [], ⟨.nil, rfl, fun k o a e => by simp at e, fun a ha => nomatch ha⟩, .cons (.d (.lst (by rw [fz]; exact hS) ?_)) .nil, ?_⟩
  · have : ∀ (F : Hp) (ns : List Int), Rls K cA F (ns.map .int) (ns.map V.int) := fun F ns => by
      induction ns with
      | nil => exact .nil
      | cons i r ih => exact .cons (.int i) ih
    exact this _ ns
  · rw [h]
    intro ρ' H' v _ _ rv
    exact rv.bl'
end TM

set_option Elab.async false
set_option linter.all false
set_option maxRecDepth 100000
set_option maxHeartbeats 400000
namespace TM
open PySem PySem.Spec PyProof.Rows L2
/-- where a def stands behind the top -/
inductive At (K : PySem.W.Frag) (x : Str) (st : Stmt) : Prop
  | mk {f : Addr} {oc kV dc pm cd ct : Value} {od an : Option Addr} {sl : Array (Option Value)} (a : PySem.W.nsIn K mainGlobals x = some (some (.ref f)))
    (l : K.lookup f = some ⟨oc, od, .func (PySem.W.fnOf x x (defArgs st) (defBody st) (defScope st) .none kV dc pm an cd ct), sl⟩) (c : PySem.W.codeIn K cd x = true) (k : PySem.W.keepIn K (.ref f) = true) : At K x st
theorem mem_of_lookup {β : Type} : ∀ {l : List (Str × β)} {f : Str} {b : β}, l.lookup f = some b → (f, b) ∈ l
  | [], _, _, h => nomatch h
  | (g, c) :: l, f, b, h => by
    rw [List.lookup_cons] at h
    split at h
    · rename_i e
      cases h
      rw [eq_of_beq e]
      exact List.mem_cons_self
    · exact List.mem_cons_of_mem _ (mem_of_lookup h)
theorem At.tab {K : PySem.W.Frag} {x : Str} {st : Stmt} {h : Heap} {mg : Str → Option Value} {F : Fn} {fs : Str → Bool} (A : At K x st) (X : K.In h) (G : h.Ns mainGlobals mg) (w : F.wf fs st = true) (e : defBody st = F.body.uns)
    (b : ∀ (kV doc pm : Value) (an : Option Addr) (cdv ct : Value) (us : List Value), us.length = F.ps.length → bindArgs (PySem.W.fnOf x x (defArgs st) (defBody st) (defScope st) .none kV doc pm an cdv ct) ⟨us, []⟩ = pure (F.ps.zip us)) :
    ∃ (st : Stmt) (a : Addr) (fd : FuncData), Fun K x x st a fd ∧ F.wf fs st = true ∧ defBody st = F.body.uns ∧ mg x = some (.ref a) ∧ Binds K fd F.ps [] := by
  cases A with
  | mk a l c k =>
    have f := fun_mk (st := st) l c k
    exact ⟨st, _, _, f, w, e, PySem.W.mg_of X G a, f.binds b⟩
theorem At.fin {K : PySem.W.Frag} {x p : Str} {st : Stmt} {h : Heap} {mg : Str → Option Value} {fa : Addr} {Z : Heap → Addr → FuncData → Prop} (A : At K x st) (X : K.In h) (G : h.Ns mainGlobals mg) (hfa : mg x = some (.ref fa))
    (b : ∀ {kV doc pm : Value} {an : Option Addr} {cdv ct : Value} (s : Shared) (v : Value), BindsTo s (PySem.W.fnOf x x (defArgs st) (defBody st) (defScope st) .none kV doc pm an cdv ct) ⟨[v], []⟩ [(p, v)])
    (z : ∀ (base : Heap) (a : Addr) (fd : FuncData), Fun K x x st a fd → Z base a fd) : ∃ fd : FuncData, (∀ (s : Shared) (v : Value), BindsTo s fd ⟨[v], []⟩ [(p, v)]) ∧ ∀ base : Heap, K.In base → base.Ns mainGlobals mg → Z base fa fd := by
  cases A with
  | mk a l c k =>
    have e := hfa.symm.trans (PySem.W.mg_of X G a)
    cases e
    exact ⟨_, fun s v => b s v, fun base _ _ => z base _ _ (fun_mk (st := st) l c k)⟩
theorem blt_mk {K : PySem.W.Frag} (z0 : PySem.W.nsIn K mainGlobals "len" = some none) (z1 : PySem.W.nsIn K mainGlobals "abs" = some none) (z2 : PySem.W.nsIn K mainGlobals "int" = some none) (z3 : PySem.W.nsIn K mainGlobals "max" = some none) (z4 : PySem.W.nsIn K mainGlobals "min" = some none)
    (z5 : PySem.W.nsIn K mainGlobals "tuple" = some none) (z6 : PySem.W.nsIn K mainGlobals "sum" = some none) (z7 : PySem.W.nsIn K mainGlobals "any" = some none) (z8 : PySem.W.nsIn K mainGlobals "all" = some none) (z9 : PySem.W.nsIn K mainGlobals "repr" = some none)
    (z10 : PySem.W.nsIn K mainGlobals "str" = some none) (z11 : PySem.W.nsIn K mainGlobals "list" = some none) (z12 : PySem.W.nsIn K mainGlobals "range" = some none) (z13 : PySem.W.nsIn K mainGlobals "enumerate" = some none) (z14 : PySem.W.nsIn K mainGlobals "zip" = some none)
    (z15 : PySem.W.nsIn K mainGlobals "isinstance" = some none) (z16 : PySem.W.nsIn K mainGlobals "bool" = some none) : ∀ x ∈ bltNames, PySem.W.nsIn K mainGlobals x = some none := by
  intro x hx
  simp only [bltNames, List.mem_cons, List.not_mem_nil, or_false] at hx
  rcases hx with rfl | rfl | rfl | rfl | rfl | rfl | rfl | rfl | rfl | rfl | rfl | rfl | rfl | rfl | rfl | rfl | rfl <;> assumption
end TM

set_option Elab.async false
set_option linter.all false
set_option maxRecDepth 100000
set_option maxHeartbeats 400000
/-! The meaning's equations, in the form in which they are rewritten with. -/
namespace TM
open PySem PySem.Spec PyProof.Rows L2
/-- an equation that is not used by unfolding -/
theorem nr {α : Sort u} {a b : α} (h : a = b) : a = b := h
section
variable {cl : CallO} {gc : Str → Option D} {τ : Sg} {S : Sto}
theorem bnd_ok' {α β : Type} {a : α} {f : α → Sto → R β} : (R.ok a S).bnd f = f a S := nr rfl
theorem bnd_bad' {α β : Type} {f : α → Sto → R β} : (R.bad : R α).bnd f = .bad := nr rfl
def Fl.thn (f : Fl) (k : SM) : Fl := match f with
  | .nx τ S => k τ S
  | f => f
theorem thn_nx {k : SM} : (Fl.nx τ S).thn k = k τ S := nr rfl
theorem thn_rt {k : SM} {w : W} : (Fl.rt w S).thn k = .rt w S := nr rfl
theorem thn_bk {k : SM} : (Fl.bk τ S).thn k = .bk τ S := nr rfl
theorem thn_ct {k : SM} : (Fl.ct τ S).thn k = .ct τ S := nr rfl
theorem thn_ite {p : Prop} [Decidable p] {a b : Fl} {k : SM} : (if p then a else b).thn k = if p then a.thn k else b.thn k := by split <;> rfl
def R.ifS (r : R Bool) (a b : Sto → Fl) : Fl := match r with
  | .ok k S => if k = true then a S else b S
  | .bad => .bad
theorem ifS_ok {k : Bool} {a b : Sto → Fl} : (R.ok k S).ifS a b = if k = true then a S else b S := nr rfl
def R.ifE {α : Type} (r : R Bool) (a b : Sto → R α) : R α := match r with
  | .ok k S => if k = true then a S else b S
  | .bad => .bad
theorem ifE_ok {α : Type} {k : Bool} {a b : Sto → R α} : (R.ok k S).ifE a b = if k = true then a S else b S := nr rfl
theorem bnd_ifE {α : Type} {r : R Bool} {a b : Sto → R α} : (r.bnd fun k S1 => if k = true then a S1 else b S1) = r.ifE a b := by cases r <;> rfl
def R.toF (r : R W) (f : W → Sto → Fl) : Fl := match r with
  | .ok w S => f w S
  | .bad => .bad
theorem toF_ok {w : W} {f : W → Sto → Fl} : (R.ok w S).toF f = f w S := nr rfl
theorem bnd_ite {α β : Type} {p : Prop} [Decidable p] {a b : R α} {f : α → Sto → R β} : (if p then a else b).bnd f = if p then a.bnd f else b.bnd f := by split <;> rfl
theorem asB_ok {b : Bool} : asB (.ok (.d (.bl b)) S) = .ok b S := nr rfl
theorem asB_ite {p : Prop} [Decidable p] {a b : R W} : asB (if p then a else b) = if p then asB a else asB b := by split <;> rfl
def getV (τ : Sg) (i : Nat) (S : Sto) : R W := match τ[i]? with
  | some (some w) => .ok w S
  | _ => .bad
theorem getV_0 {w : W} {r : Sg} : getV (some w :: r) 0 S = .ok w S := nr rfl
theorem getV_s {o : Option W} {r : Sg} {i : Nat} : getV (o :: r) (i + 1) S = getV r i S := nr rfl
/-! expressions -/
theorem x_var {i : Nat} {x : Str} {p : Pos} : evE cl gc (.var i x p) τ S = getV τ i S := by
  simp only [evE]
  rfl
theorem x_int {i : Int} {k : Nat} {p : Pos} : evE cl gc (.int i k p) τ S = .ok (.d (.int i)) S := by simp only [evE]
theorem x_str {i : Str} {k : Nat} {p : Pos} : evE cl gc (.str i k p) τ S = .ok (.d (.str i)) S := by simp only [evE]
theorem x_bl {i : Bool} {k : Nat} {p : Pos} : evE cl gc (.bl i k p) τ S = .ok (.d (.bl i)) S := by simp only [evE]
theorem x_non {k : Nat} {p : Pos} : evE cl gc (.non k p) τ S = .ok (.d .non) S := by simp only [evE]
theorem x_glo {x : Str} {p : Pos} {d : D} (h : gc x = some d) : evE cl gc (.glo x p) τ S = .ok (.d d) S := by simp only [evE, h]
theorem x_bin {o : Operator} {a b : E} {p : Pos} : evE cl gc (.bin o a b p) τ S = (evE cl gc a τ S).bnd fun x S1 => (evE cl gc b τ S1).bnd fun y S2 => opE o x y S2 := by simp only [evE]
theorem x_neg {a : E} {p : Pos} : evE cl gc (.neg a p) τ S = (evE cl gc a τ S).bnd fun x S1 => negE x S1 := by simp only [evE]
theorem x_not {a : E} {p : Pos} : evE cl gc (.not a p) τ S = (asB (evE cl gc a τ S)).bnd fun b S1 => .ok (.d (.bl (!b))) S1 := by simp only [evE]
theorem x_cmp {o : CmpOp} {a b : E} {p : Pos} : evE cl gc (.cmp o a b p) τ S = (evE cl gc a τ S).bnd fun x S1 => (evE cl gc b τ S1).bnd fun y S2 => cmpE o x y S2 := by simp only [evE]
theorem x_isN {y : Bool} {a : E} {k : Nat} {p1 p : Pos} : evE cl gc (.isN y a k p1 p) τ S = (evE cl gc a τ S).bnd fun x S1 => isnE y x S1 := by simp only [evE]
theorem x_chn {o o2 : CmpOp} {a b c : E} {p : Pos} : evE cl gc (.chn o o2 a b c p) τ S = (evE cl gc a τ S).bnd fun x S1 => (evE cl gc b τ S1).bnd fun y S2 => (asB (cmpE o x y S2)).ifE (fun S3 => (evE cl gc c τ S3).bnd fun z S4 => cmpE o2 y z S4) fun S3 => .ok (.d (.bl false)) S3 := by
  simp only [evE, bnd_ifE]
theorem x_and1 {a : E} {p : Pos} : evE cl gc (.bop .And (.acons a .anil) p) τ S = (asB (evE cl gc a τ S)).bnd fun b S1 => .ok (.d (.bl b)) S1 := by simp only [evE, evB]
theorem x_or1 {a : E} {p : Pos} : evE cl gc (.bop .Or (.acons a .anil) p) τ S = (asB (evE cl gc a τ S)).bnd fun b S1 => .ok (.d (.bl b)) S1 := by simp only [evE, evB]
theorem x_and {a b r : E} {p : Pos} : evE cl gc (.bop .And (.acons a (.acons b r)) p) τ S = (asB (evE cl gc a τ S)).ifE (evE cl gc (.bop .And (.acons b r) p) τ) fun S1 => .ok (.d (.bl false)) S1 := by
  simp only [evE]
  rw [show evB cl gc .And (.acons a (.acons b r)) τ S = (asB (evE cl gc a τ S)).bnd fun c S1 => if c = true then evB cl gc .And (.acons b r) τ S1 else .ok false S1 by simp only [evB]]
  cases asB (evE cl gc a τ S) with
  | bad => rfl
  | ok c S1 => cases c <;> rfl
theorem x_or {a b r : E} {p : Pos} : evE cl gc (.bop .Or (.acons a (.acons b r)) p) τ S = (asB (evE cl gc a τ S)).ifE (fun S1 => .ok (.d (.bl true)) S1) (evE cl gc (.bop .Or (.acons b r) p) τ) := by
  simp only [evE]
  rw [show evB cl gc .Or (.acons a (.acons b r)) τ S = (asB (evE cl gc a τ S)).bnd fun c S1 => if c = true then .ok true S1 else evB cl gc .Or (.acons b r) τ S1 by simp only [evB]]
  cases asB (evE cl gc a τ S) with
  | bad => rfl
  | ok c S1 => cases c <;> rfl
theorem x_ite {c a b : E} {p : Pos} : evE cl gc (.ite c a b p) τ S = (asB (evE cl gc c τ S)).ifE (evE cl gc a τ) (evE cl gc b τ) := by
  simp only [evE]
  exact bnd_ifE
theorem x_call {f : Str} {as : E} {pf p : Pos} : evE cl gc (.call f as pf p) τ S = (evA cl gc as τ S).bnd fun ws S1 => cl f ws S1 := by simp only [evE]
theorem x_bi {f : Bi} {as : E} {pf p : Pos} : evE cl gc (.bi f as pf p) τ S = (evA cl gc as τ S).bnd fun ws S1 => biE f ws S1 := by simp only [evE]
theorem x_fb {f : Fb} {as : E} {pf p : Pos} : evE cl gc (.fb f as pf p) τ S = frzL ((evA cl gc as τ S).bnd fun ws S1 => fbE f ws S1) := by simp only [evE]
theorem x_isi {a : E} {t : Ty} {pf pt p : Pos} : evE cl gc (.isi a t pf pt p) τ S = (evE cl gc a τ S).bnd fun x S1 => isiE t x S1 := by simp only [evE]
theorem x_ix {a b : E} {p : Pos} : evE cl gc (.ix a b p) τ S = (evE cl gc a τ S).bnd fun x S1 => (evE cl gc b τ S1).bnd fun y S2 => ixE x y S2 := by simp only [evE]
theorem x_tup {as : E} {k : Nat} {p : Pos} : evE cl gc (.tup as k p) τ S = (evA cl gc as τ S).bnd fun ws S1 => tupE ws S1 := by simp only [evE]
theorem x_lst {as : E} {p : Pos} : evE cl gc (.lst as p) τ S = frzL ((evA cl gc as τ S).bnd fun ws S1 => lstE ws S1) := by simp only [evE]
theorem x_rep {as b : E} {pl p : Pos} : evE cl gc (.rep as b pl p) τ S = frzL (((evA cl gc as τ S).bnd fun ws S1 => lstE ws S1).bnd fun xs S2 => (evE cl gc b τ S2).bnd fun w S3 => repE xs w S3) := by simp only [evE]
theorem x_lc {own : List (Str × Nat)} {elt : E} {g : G} {k : IK} {it ifs : E} {scope : Scope} {p : Pos} : evE cl gc (.lc own elt g k it ifs scope p) τ S = frzL ((itE k (evE cl gc it) (evA cl gc it) τ S).bnd fun iv S1 => lcX iv.gd S1.length (lcB g (evTs cl gc ifs) (evE cl gc elt) (wipeS τ (own.map (·.2)))) iv.ds (S1 ++ [.lst []])) := by
  simp only [evE, lcE]
theorem x_mm {m : Mm} {o as : E} {pa p : Pos} : evE cl gc (.mm m o as pa p) τ S = (evE cl gc o τ S).bnd fun x S1 => if isL S1 x = true then (evA cl gc as τ S1).bnd fun ws S2 => mmE m x ws S2 else .bad := by simp only [evE]
theorem x_anil : evA cl gc .anil τ S = .ok [] S := by simp only [evA]
theorem x_acons {a as : E} : evA cl gc (.acons a as) τ S = (evE cl gc a τ S).bnd fun x S1 => (evA cl gc as τ S1).bnd fun xs S2 => .ok (x :: xs) S2 := by simp only [evA]
theorem x_ts0 : evTs cl gc .anil τ S = .ok true S := by simp only [evTs]
theorem x_ts1 {a : E} : evTs cl gc (.acons a .anil) τ S = asB (evE cl gc a τ S) := by simp only [evTs]
theorem x_it0 {me : EM} {ma : AM} : itE .val me ma τ S = (me τ S).bnd fun w S1 => valI w S1 := nr rfl
theorem x_it1 {me : EM} {ma : AM} {pf p : Pos} : itE (.rng1 pf p) me ma τ S = (ma τ S).bnd fun ws S1 => rng1E ws S1 := nr rfl
theorem x_it2 {me : EM} {ma : AM} {pf p : Pos} : itE (.rng2 pf p) me ma τ S = (ma τ S).bnd fun ws S1 => rng2E ws S1 := nr rfl
theorem x_it3 {me : EM} {ma : AM} {pf p : Pos} : itE (.enu pf p) me ma τ S = (ma τ S).bnd fun ws S1 => enuE ws S1 := nr rfl
theorem x_it4 {me : EM} {ma : AM} {pf p : Pos} : itE (.zip pf p) me ma τ S = (ma τ S).bnd fun ws S1 => zipE ws S1 := nr rfl
theorem f_fb {f : Fb} {as : E} {pf p : Pos} : evF cl gc (.fb f as pf p) τ S = (evA cl gc as τ S).bnd fun ws S1 => fbE f ws S1 := nr rfl
theorem f_lst {as : E} {p : Pos} : evF cl gc (.lst as p) τ S = (evA cl gc as τ S).bnd fun ws S1 => lstE ws S1 := nr rfl
theorem f_rep {as b : E} {pl p : Pos} : evF cl gc (.rep as b pl p) τ S = ((evA cl gc as τ S).bnd fun ws S1 => lstE ws S1).bnd fun xs S2 => (evE cl gc b τ S2).bnd fun w S3 => repE xs w S3 := nr rfl
theorem f_lc {own : List (Str × Nat)} {elt : E} {g : G} {k : IK} {it ifs : E} {scope : Scope} {p : Pos} : evF cl gc (.lc own elt g k it ifs scope p) τ S = (itE k (evE cl gc it) (evA cl gc it) τ S).bnd fun iv S1 => lcX iv.gd S1.length (lcB g (evTs cl gc ifs) (evE cl gc elt) (wipeS τ (own.map (·.2)))) iv.ds (S1 ++ [.lst []]) := nr rfl
theorem m_f {e : E} : evM cl gc false e τ S = evE cl gc e τ S := nr rfl
theorem m_t {e : E} : evM cl gc true e τ S = pushL (evF cl gc e τ S) := nr rfl
theorem pushL_ok {xs : List D} : pushL (.ok xs S) = .ok (.ref S.length) (S ++ [.lst xs]) := nr rfl
theorem frzL_ok {xs : List D} : frzL (.ok xs S) = .ok (.d (.lst xs)) S := nr rfl
/-! statements -/
theorem s_nil : evS cl gc .nil τ S = .nx τ S := by simp only [evS]
theorem s_cons {s r : C} : evS cl gc (.cons s r) τ S = (evS cl gc s τ S).thn (evS cl gc r) := by
  simp only [evS]
  cases evS cl gc s τ S <;> rfl
theorem s_set {i : Nat} {x : Str} {px p : Pos} {e : E} : evS cl gc (.set i x px e p) τ S = (evE cl gc e τ S).toF fun w S1 => .nx (τ.set i (some w)) S1 := by
  simp only [evS]
  rfl
theorem s_setm {i : Nat} {x : Str} {px p : Pos} {e : E} : evS cl gc (.setm i x px e p) τ S = (pushL (evF cl gc e τ S)).toF fun w S1 => .nx (τ.set i (some w)) S1 := by
  simp only [evS]
  cases evF cl gc e τ S <;> rfl
theorem s_setg {gs : List (Nat × Str × Pos)} {k : Nat} {pt p : Pos} {e : E} : evS cl gc (.setg gs k pt e p) τ S = (evE cl gc e τ S).toF fun w S1 => match (G.tp gs k pt).go w τ with
    | some τ1 => .nx τ1 S1
    | none => .bad := by
  simp only [evS]
  rfl
theorem s_par {i j : Nat} {x y : Str} {px py pt pe p : Pos} {k k2 : Nat} {fa fb : Bool} {a b : E} : evS cl gc (.par i x px j y py k pt fa a fb b k2 pe p) τ S = (evM cl gc fa a τ S).toF fun v S1 => (evM cl gc fb b τ S1).toF fun w S2 => .nx ((τ.set i (some v)).set j (some w)) S2 := by
  simp only [evS]
  cases evM cl gc fa a τ S with
  | bad => rfl
  | ok v S1 =>
    simp only [R.bnd_ok, toF_ok]
    cases evM cl gc fb b τ S1 <;> rfl
theorem s_aug {i : Nat} {x : Str} {px p : Pos} {o : Operator} {e : E} : evS cl gc (.aug i x px o e p) τ S = (getV τ i S).toF fun v S0 => ((evE cl gc e τ S0).bnd fun y S1 => augE v y S1).toF fun z S2 => .nx (τ.set i (some z)) S2 := by
  simp only [evS, getV]
  cases τ[i]? with
  | none => rfl
  | some o =>
    cases o with
    | none => rfl
    | some w => simp only [toF_ok]; rfl
theorem s_sub {o i e : E} {ps p : Pos} : evS cl gc (.sub o i e ps p) τ S = (evE cl gc e τ S).toF fun y S1 => (evE cl gc o τ S1).toF fun x S2 => (evE cl gc i τ S2).toF fun k S3 => match subE x k y S3 with
    | .ok _ S4 => .nx τ S4
    | .bad => .bad := by
  simp only [evS]
  cases evE cl gc e τ S with
  | bad => rfl
  | ok y S1 =>
    simp only [R.bnd_ok, toF_ok]
    cases evE cl gc o τ S1 with
    | bad => rfl
    | ok x S2 =>
      simp only [R.bnd_ok, toF_ok]
      cases evE cl gc i τ S2 <;> rfl
theorem s_expr {e : E} {p : Pos} : evS cl gc (.expr e p) τ S = (evE cl gc e τ S).toF fun _ S1 => .nx τ S1 := by
  simp only [evS]
  rfl
theorem s_ret {e : E} {p : Pos} : evS cl gc (.ret e p) τ S = (evE cl gc e τ S).toF fun w S1 => .rt w S1 := by
  simp only [evS]
  rfl
theorem s_retm {e : E} {p : Pos} : evS cl gc (.retm e p) τ S = (pushL (evF cl gc e τ S)).toF fun w S1 => .rt w S1 := by
  simp only [evS]
  cases evF cl gc e τ S <;> rfl
theorem s_retN {p : Pos} : evS cl gc (.retN p) τ S = .rt (.d .non) S := by simp only [evS]
theorem s_iff {c : E} {a b : C} {p : Pos} : evS cl gc (.iff c a b p) τ S = (asB (evE cl gc c τ S)).ifS (evS cl gc a τ) (evS cl gc b τ) := by
  simp only [evS]
  rfl
theorem s_whl {c : E} {b : C} {p : Pos} : evS cl gc (.whl c b p) τ S = whlE (fun τ S => asB (evE cl gc c τ S)) (evS cl gc b) τ S := by simp only [evS]
theorem s_for {g : G} {k : IK} {it : E} {b : C} {p : Pos} : evS cl gc (.for_ g k it b p) τ S = forE g (evS cl gc b) (itE k (evE cl gc it) (evA cl gc it) τ S) τ := by simp only [evS]
theorem s_brk {p : Pos} : evS cl gc (.brk p) τ S = .bk τ S := by simp only [evS]
theorem s_cnt {p : Pos} : evS cl gc (.cnt p) τ S = .ct τ S := by simp only [evS]
theorem s_pass {p : Pos} : evS cl gc (.pass p) τ S = .nx τ S := by simp only [evS]
theorem forE_ok {g : G} {b : SM} {iv : Iv} : forE g b (.ok iv S) τ = forX iv.gd (forB g b) iv.ds τ S := nr rfl
/-! values -/
theorem rd_d {x : D} : rd S (.d x) = some x := nr rfl
theorem o_add {i j : Int} : opE .Add (.d (.int i)) (.d (.int j)) S = .ok (.d (.int (i + j))) S := nr rfl
theorem o_sub {i j : Int} : opE .Sub (.d (.int i)) (.d (.int j)) S = .ok (.d (.int (i - j))) S := nr rfl
theorem o_mul {i j : Int} (h : IntMulOk i j) : opE .Mult (.d (.int i)) (.d (.int j)) S = .ok (.d (.int (i * j))) S := by
  simp only [opE, rd, if_pos h]
theorem o_div {i j : Int} (h : j ≠ 0) (h2 : j.natAbs.log2 < 9000) : opE .FloorDiv (.d (.int i)) (.d (.int j)) S = .ok (.d (.int (i.fdiv j))) S := by
  simp only [opE, rd, if_pos (And.intro h h2)]
theorem o_mod {i j : Int} (h : j ≠ 0) : opE .Mod (.d (.int i)) (.d (.int j)) S = .ok (.d (.int (i.fmod j))) S := by
  simp only [opE, rd, if_pos h]
theorem o_pow {i j : Int} (h : CPow i j) : opE .Pow (.d (.int i)) (.d (.int j)) S = .ok (.d (.int (i ^ j.toNat))) S := by
  simp only [opE, rd, if_pos h]
theorem q_eqI {i j : Int} : cmpE .Eq (.d (.int i)) (.d (.int j)) S = .ok (.d (.bl (decide (i = j)))) S := nr rfl
theorem q_neI {i j : Int} : cmpE .NotEq (.d (.int i)) (.d (.int j)) S = .ok (.d (.bl (!decide (i = j)))) S := nr rfl
theorem q_eqS {i j : Str} : cmpE .Eq (.d (.str i)) (.d (.str j)) S = .ok (.d (.bl (decide (i = j)))) S := nr rfl
theorem q_neS {i j : Str} : cmpE .NotEq (.d (.str i)) (.d (.str j)) S = .ok (.d (.bl (!decide (i = j)))) S := nr rfl
theorem q_eqB {i j : Bool} : cmpE .Eq (.d (.bl i)) (.d (.bl j)) S = .ok (.d (.bl (decide (i = j)))) S := nr rfl
theorem q_neB {i j : Bool} : cmpE .NotEq (.d (.bl i)) (.d (.bl j)) S = .ok (.d (.bl (!decide (i = j)))) S := nr rfl
theorem q_lt {i j : Int} : cmpE .Lt (.d (.int i)) (.d (.int j)) S = .ok (.d (.bl (decide (i < j)))) S := nr rfl
theorem q_le {i j : Int} : cmpE .LtE (.d (.int i)) (.d (.int j)) S = .ok (.d (.bl (decide (i ≤ j)))) S := nr rfl
theorem q_gt {i j : Int} : cmpE .Gt (.d (.int i)) (.d (.int j)) S = .ok (.d (.bl (decide (j < i)))) S := nr rfl
theorem q_ge {i j : Int} : cmpE .GtE (.d (.int i)) (.d (.int j)) S = .ok (.d (.bl (decide (j ≤ i)))) S := nr rfl
theorem i_t0 {a : D} {r : List D} : ixE (.d (.tup (a :: r))) (.d (.int 0)) S = .ok (.d a) S := by
  have e : atI (a :: r) 0 = some a := atI_nat (j := 0) rfl
  simp only [ixE, rd, e]
theorem i_t1 {a b : D} {r : List D} : ixE (.d (.tup (a :: b :: r))) (.d (.int 1)) S = .ok (.d b) S := by
  have e : atI (a :: b :: r) 1 = some b := atI_nat (j := 1) rfl
  simp only [ixE, rd, e]
theorem i_lst {xs : List D} {i : Int} {d : D} (h : atI xs i = some d) : ixE (.d (.lst xs)) (.d (.int i)) S = .ok (.d d) S := by simp only [ixE, rd, h]
theorem i_tup {xs : List D} {i : Int} {d : D} (h : atI xs i = some d) : ixE (.d (.tup xs)) (.d (.int i)) S = .ok (.d d) S := by simp only [ixE, rd, h]
theorem n_int {i : Int} : negE (.d (.int i)) S = .ok (.d (.int (-i))) S := nr rfl
theorem b_len {xs : List D} : biE .len [.d (.lst xs)] S = .ok (.d (.int xs.length)) S := nr rfl
theorem b_lenT {xs : List D} : biE .len [.d (.tup xs)] S = .ok (.d (.int xs.length)) S := nr rfl
theorem b_abs {i : Int} : biE .abs [.d (.int i)] S = .ok (.d (.int i.natAbs)) S := by
  simp only [biE]
  congr 3
  split <;> omega
theorem b_int {i : Int} : biE .int [.d (.int i)] S = .ok (.d (.int i)) S := nr rfl
theorem b_intB {b : Bool} : biE .int [.d (.bl b)] S = .ok (.d (.int (if b then 1 else 0))) S := nr rfl
theorem b_max {i j : Int} : biE .max [.d (.int i), .d (.int j)] S = .ok (.d (.int (if j > i then j else i))) S := nr rfl
theorem b_min {i j : Int} : biE .min [.d (.int i), .d (.int j)] S = .ok (.d (.int (if j < i then j else i))) S := nr rfl
theorem b_tup {xs : List D} : biE .tuple [.d (.lst xs)] S = .ok (.d (.tup xs)) S := nr rfl
theorem b_tupT {xs : List D} : biE .tuple [.d (.tup xs)] S = .ok (.d (.tup xs)) S := nr rfl
theorem fb_l {xs : List D} : fbE .list [.d (.lst xs)] S = .ok xs S := nr rfl
theorem fb_t {xs : List D} : fbE .list [.d (.tup xs)] S = .ok xs S := nr rfl
theorem is_tup_t {xs : List D} : isiE .tuple (.d (.tup xs)) S = .ok (.d (.bl true)) S := nr rfl
theorem is_tup_i {i : Int} : isiE .tuple (.d (.int i)) S = .ok (.d (.bl false)) S := nr rfl
theorem is_int_t {xs : List D} : isiE .int (.d (.tup xs)) S = .ok (.d (.bl false)) S := nr rfl
theorem is_int_i {i : Int} : isiE .int (.d (.int i)) S = .ok (.d (.bl true)) S := nr rfl
theorem tup_ok' {ws : List W} {ds : List D} (h : dats ws = some ds) (hl : ds.length ≤ sizeLine) : tupE ws S = .ok (.d (.tup ds)) S := by simp only [tupE, h, if_pos hl]
theorem tup2 {a b : D} : tupE [.d a, .d b] S = .ok (.d (.tup [a, b])) S := tup_ok' rfl (by rw [sizeLine_eq]; simp)
theorem lst_ok' {ws : List W} {ds : List D} (h : dats ws = some ds) (hl : ds.length ≤ sizeLine) : lstE ws S = .ok ds S := by simp only [lstE, h, if_pos hl]
theorem leave_d {b : Nat} {x : D} : leave b false (.d x) S = .ok (.d x) (S.take b) := nr rfl
theorem leave_t {b : Nat} {w : W} : leave b true w S = .ok w S := nr rfl
/-- a def's body has come back -/
def fin (b : Nat) (keep : Bool) (f : Fl) : R W := match f with
  | .rt w S' => leave b keep w S'
  | .nx _ S' => leave b keep (.d .non) S'
  | _ => .bad
theorem fin_rt {b : Nat} {keep : Bool} {w : W} : fin b keep (.rt w S) = leave b keep w S := nr rfl
theorem fin_nx {b : Nat} {keep : Bool} : fin b keep (.nx τ S) = leave b keep (.d .non) S := nr rfl
theorem run_eq {F : Fn} {ws : List W} (h : ws.length = F.ps.length) : F.run cl gc ws S = fin S.length F.keep (evS cl gc F.body (ws.map some ++ List.replicate (F.N.length - ws.length) none) S) := by
  unfold Fn.run fin
  rw [if_pos h]
  all_goals (cases evS cl gc F.body _ S <;> rfl)
end
end TM

set_option Elab.async false
set_option linter.all false
set_option maxRecDepth 100000
set_option maxHeartbeats 400000
/-! Fractions. -/
namespace TM
open PySem PySem.Spec PyProof.Rows L2
theorem gcd_loop {c : BM} {b : SM} (f : Int → Int → Sg) (hc : ∀ x y S, 0 ≤ y → c (f x y) S = .ok (decide (0 < y)) S) (hb : ∀ x y S, 0 < y → b (f x y) S = .nx (f y (x.fmod y)) S) :
    ∀ (y x : Nat) (S : Sto), whlE c b (f (x : Int) (y : Int)) S = .nx (f (Nat.gcd x y : Nat) 0) S := by
  intro y
  induction y using Nat.strongRecOn with
  | ind y ih =>
    intro x S
    rw [whlE_eq, hc _ _ _ (by omega)]
    by_cases h : 0 < y
    · have h1 : (0 : Int) < (y : Int) := by omega
      simp only [decide_eq_true h1]
      rw [hb _ _ _ h1]
      simp only
      have e : (x : Int).fmod (y : Int) = ((x % y : Nat) : Int) := by
        rw [Int.fmod_eq_emod_of_nonneg _ (by omega)]
        exact (Int.natCast_emod x y).symm
      rw [e, ih (x % y) (Nat.mod_lt x h) y S]
      congr 2
      rw [Nat.gcd_comm y (x % y), ← Nat.gcd_rec, Nat.gcd_comm]
    · have h1 : y = 0 := by omega
      subst h1
      simp
theorem gcd_dvd_l (u l : Int) : (Int.gcd u l : Int) ∣ u := Int.gcd_dvd_left ..
theorem gcd_dvd_r (u l : Int) : (Int.gcd u l : Int) ∣ l := Int.gcd_dvd_right ..
theorem gcd_pos {u l : Int} (h : l ≠ 0) : 0 < Int.gcd u l := Int.gcd_pos_of_ne_zero_right u h
theorem rat_pos {u l : Int} (h : 0 < l) : u.fdiv (Int.gcd u l) = (Rat.divInt u l).num ∧ l.fdiv (Int.gcd u l) = ((Rat.divInt u l).den : Int) := by
  have hg := gcd_pos (u := u) (Int.ne_of_gt h)
  rw [Rat.num_divInt, Rat.den_divInt, if_neg (Int.ne_of_gt h), Int.sign_eq_one_of_pos h, Int.one_mul, Int.gcd_comm l u]
  rw [Int.fdiv_eq_ediv_of_nonneg _ (by omega), Int.fdiv_eq_ediv_of_nonneg _ (by omega)]
  refine ⟨rfl, ?_⟩
  rw [Int.natCast_ediv, Int.natAbs_of_nonneg (Int.le_of_lt h)]
theorem rat_neg {u l : Int} (h : l < 0) : u.fdiv (-(Int.gcd u l : Int)) = (Rat.divInt u l).num ∧ l.fdiv (-(Int.gcd u l : Int)) = ((Rat.divInt u l).den : Int) := by
  have hg := gcd_pos (u := u) (Int.ne_of_lt h)
  rw [Rat.num_divInt, Rat.den_divInt, if_neg (Int.ne_of_lt h), Int.sign_eq_neg_one_of_neg h, Int.gcd_comm l u]
  obtain ⟨a, ha⟩ := gcd_dvd_l u l
  obtain ⟨b, hb⟩ := gcd_dvd_r u l
  generalize Int.gcd u l = g at *
  have hg' : (g : Int) ≠ 0 := by omega
  have hg2 : (-(g : Int)) ≠ 0 := by omega
  constructor
  · rw [ha, show (g : Int) * a = (-(g : Int)) * (-a) by rw [Int.neg_mul_neg], Int.mul_fdiv_cancel_left _ hg2, show (-1 : Int) * (-(g : Int) * -a) = (g : Int) * (-a) by rw [Int.neg_mul_neg, Int.neg_one_mul, Int.mul_neg], Int.mul_ediv_cancel_left _ hg']
  · rw [Int.natCast_ediv]
    have e : ((l.natAbs : Nat) : Int) = -l := by omega
    rw [e, hb, show (g : Int) * b = (-(g : Int)) * (-b) by rw [Int.neg_mul_neg], Int.mul_fdiv_cancel_left _ hg2, show -(-(g : Int) * -b) = (g : Int) * (-b) by rw [Int.neg_mul_neg, Int.mul_neg], Int.mul_ediv_cancel_left _ hg']
/-- a fraction as the pair that the program keeps -/
def qD (r : Rat) : D := .tup [.int r.num, .int r.den]
theorem qD_int (i : Int) : qD (i : Rat) = .tup [.int i, .int 1] := rfl
theorem qD_inj {a b : Rat} (h : qD a = qD b) : a = b := by
  unfold qD at h
  injection h with h
  injection h with h1 h2
  injection h1 with h1
  injection h2 with h2 _
  injection h2 with h2
  exact Rat.ext h1 (by omega)
/-- sizes -/
def bd (n : Nat) (r : Rat) : Prop := r.num.natAbs < 2 ^ n ∧ r.den < 2 ^ n
theorem bd.mono {m n : Nat} {r : Rat} (h : bd m r) (l : m ≤ n) : bd n r := ⟨Nat.lt_of_lt_of_le h.1 (Nat.pow_le_pow_right (by omega) l), Nat.lt_of_lt_of_le h.2 (Nat.pow_le_pow_right (by omega) l)⟩
theorem mul_ok {i j : Int} {a b : Nat} (hi : i.natAbs < 2 ^ a) (hj : j.natAbs < 2 ^ b) (h : a + b ≤ 999998) : IntMulOk i j :=
  (wide_mul (a := a + 1) (b := b + 1) (Nat.lt_of_lt_of_le hi (Nat.pow_le_pow_right (by omega) (by omega))) (Nat.lt_of_lt_of_le hj (Nat.pow_le_pow_right (by omega) (by omega))) (by omega) (by omega) (by omega)).ok
theorem log_ok {j : Int} {b : Nat} (hj : j.natAbs < 2 ^ b) (h : b ≤ 9000) : j.natAbs.log2 < 9000 :=
  PySem.Flt.log2_lt_of (by decide : 0 < 9000) (Nat.lt_of_lt_of_le hj (Nat.pow_le_pow_right (by omega) h))
theorem gcd_le {u l : Int} (h : l ≠ 0) : Int.gcd u l ≤ l.natAbs := Int.gcd_le_natAbs_right u h
theorem bd_divInt {u l : Int} {n : Nat} (h : l ≠ 0) (hu : u.natAbs < 2 ^ n) (hl : l.natAbs < 2 ^ n) : bd n (Rat.divInt u l) := by
  constructor
  · refine Nat.lt_of_le_of_lt ?_ hu
    rw [Rat.num_divInt]
    rcases Int.lt_or_gt_of_ne h with q | q
    · rw [Int.sign_eq_neg_one_of_neg q, Int.neg_one_mul]
      refine Nat.le_trans (Int.natAbs_ediv_le_natAbs _ _) ?_
      rw [Int.natAbs_neg]
      exact Nat.le_refl _
    · rw [Int.sign_eq_one_of_pos q, Int.one_mul]
      exact Int.natAbs_ediv_le_natAbs _ _
  · refine Nat.lt_of_le_of_lt ?_ hl
    rw [Rat.den_divInt, if_neg h]
    exact Nat.div_le_self _ _
theorem den_ne (a : Rat) : (a.den : Int) ≠ 0 := by have := a.den_nz; omega
theorem add_eq (a b : Rat) : a + b = Rat.divInt (a.num * b.den + b.num * a.den) (a.den * b.den) := by
  conv => lhs; rw [← Rat.num_divInt_den a, ← Rat.num_divInt_den b]
  rw [Rat.divInt_add_divInt _ _ (den_ne a) (den_ne b)]
theorem neg_eq (b : Rat) : -b = Rat.divInt (-b.num) b.den := by
  conv => lhs; rw [← Rat.num_divInt_den b]
  rw [Rat.neg_divInt]
theorem sub_eq (a b : Rat) : a - b = Rat.divInt (a.num * b.den - b.num * a.den) (a.den * b.den) := by
  rw [Rat.sub_eq_add_neg, neg_eq]
  conv => lhs; rw [← Rat.num_divInt_den a]
  rw [Rat.divInt_add_divInt _ _ (den_ne a) (den_ne b), Int.neg_mul, Int.sub_eq_add_neg]
theorem mul_eq (a b : Rat) : a * b = Rat.divInt (a.num * b.num) (a.den * b.den) := by
  conv => lhs; rw [← Rat.num_divInt_den a, ← Rat.num_divInt_den b]
  rw [Rat.divInt_mul_divInt]
theorem pow_lt {x y m n : Nat} (hx : x < 2 ^ m) (hy : y < 2 ^ n) : x * y < 2 ^ (m + n) := by
  rw [Nat.pow_add]
  exact Nat.mul_lt_mul'' hx hy
theorem mul_lt' {x y : Int} {m n : Nat} (hx : x.natAbs < 2 ^ m) (hy : y.natAbs < 2 ^ n) : (x * y).natAbs < 2 ^ (m + n) := by
  rw [Int.natAbs_mul]
  exact pow_lt hx hy
theorem add_lt' {x y : Int} {m : Nat} (hx : x.natAbs < 2 ^ m) (hy : y.natAbs < 2 ^ m) : (x + y).natAbs < 2 ^ (m + 1) := by
  rw [Nat.pow_succ]
  omega
theorem sub_lt' {x y : Int} {m : Nat} (hx : x.natAbs < 2 ^ m) (hy : y.natAbs < 2 ^ m) : (x - y).natAbs < 2 ^ (m + 1) := by
  rw [Nat.pow_succ]
  omega
theorem bd_add {m n : Nat} {a b : Rat} (ha : bd m a) (hb : bd n b) : bd (m + n + 1) (a + b) := by
  rw [add_eq]
  refine bd_divInt (Int.mul_ne_zero (den_ne a) (den_ne b)) (add_lt' (mul_lt' ha.1 (by simpa using hb.2)) ?_) ?_
  · rw [Nat.add_comm]
    exact mul_lt' hb.1 (by simpa using ha.2)
  · exact Nat.lt_of_lt_of_le (mul_lt' (x := a.den) (y := b.den) (m := m) (n := n) (by simpa using ha.2) (by simpa using hb.2)) (Nat.pow_le_pow_right (by omega) (by omega))
theorem bd_sub {m n : Nat} {a b : Rat} (ha : bd m a) (hb : bd n b) : bd (m + n + 1) (a - b) := by
  rw [sub_eq]
  refine bd_divInt (Int.mul_ne_zero (den_ne a) (den_ne b)) (sub_lt' (mul_lt' ha.1 (by simpa using hb.2)) ?_) ?_
  · rw [Nat.add_comm]
    exact mul_lt' hb.1 (by simpa using ha.2)
  · exact Nat.lt_of_lt_of_le (mul_lt' (x := a.den) (y := b.den) (m := m) (n := n) (by simpa using ha.2) (by simpa using hb.2)) (Nat.pow_le_pow_right (by omega) (by omega))
theorem bd_mul {m n : Nat} {a b : Rat} (ha : bd m a) (hb : bd n b) : bd (m + n) (a * b) := by
  rw [mul_eq]
  exact bd_divInt (Int.mul_ne_zero (den_ne a) (den_ne b)) (mul_lt' ha.1 hb.1) (mul_lt' (by simpa using ha.2) (by simpa using hb.2))
theorem bd_int {n : Nat} {i : Int} (h : i.natAbs < 2 ^ n) (h1 : 0 < n) : bd n (i : Rat) := ⟨h, Nat.lt_of_lt_of_le (by decide : 1 < 2 ^ 1) (Nat.pow_le_pow_right (by omega) h1)⟩
end TM

set_option Elab.async false
set_option linter.all false
set_option maxRecDepth 100000
set_option maxHeartbeats 400000
/-! Loops, and lists of the store. -/
namespace TM
open PySem PySem.Spec PyProof.Rows L2
theorem forX_nil {bd : W → Sg → Sto → Fl} {τ : Sg} {S : Sto} : forX (fun _ => True) bd [] τ S = .nx τ S := by simp [forX]
theorem forX_cons {bd : W → Sg → Sto → Fl} {d : D} {ds : List D} {τ : Sg} {S : Sto} : forX (fun _ => True) bd (d :: ds) τ S = (match bd (.d d) τ S with
    | .nx τ' S' => forX (fun _ => True) bd ds τ' S'
    | .ct τ' S' => forX (fun _ => True) bd ds τ' S'
    | .bk τ' S' => .nx τ' S'
    | .rt w S' => .rt w S'
    | .bad => .bad) := by
  rw [forX, if_pos trivial]
  all_goals rfl
theorem gd_sn {ds : List D} : (Iv.sn ds).gd = fun _ => True := nr rfl
theorem ds_sn {ds : List D} : (Iv.sn ds).ds = ds := nr rfl
theorem v_lst {ds : List D} {S : Sto} : valI (.d (.lst ds)) S = .ok (.sn ds) S := nr rfl
theorem v_tup {ds : List D} {S : Sto} : valI (.d (.tup ds)) S = .ok (.sn ds) S := nr rfl
theorem v_rng {j : Int} {S : Sto} (h : -(2 ^ 62) ≤ j ∧ j < 2 ^ 62) : rng1E [.d (.int j)] S = .ok (.sn (rngL 0 j.toNat)) S := by simp only [rng1E, if_pos h]
theorem v_rng2 {i j : Int} {S : Sto} (h : -(2 ^ 62) ≤ i ∧ i < 2 ^ 62 ∧ -(2 ^ 62) ≤ j ∧ j < 2 ^ 62) : rng2E [.d (.int i), .d (.int j)] S = .ok (.sn (rngL i (j - i).toNat)) S := by simp only [rng2E, if_pos h]
theorem mapS_cons {w : W} {ws : List W} : List.map (some : W → Option W) (w :: ws) = some w :: List.map some ws := nr rfl
theorem mapS_nil : List.map (some : W → Option W) [] = [] := nr rfl
theorem i_l0 {a : D} {r : List D} {S : Sto} : ixE (.d (.lst (a :: r))) (.d (.int 0)) S = .ok (.d a) S := i_lst (atI_nat (j := 0) rfl)
theorem i_l1 {a b : D} {r : List D} {S : Sto} : ixE (.d (.lst (a :: b :: r))) (.d (.int 1)) S = .ok (.d b) S := i_lst (atI_nat (j := 1) rfl)
theorem fb_eq {i : Nat} {x : Str} {p : Pos} {b : SM} {w : W} {τ : Sg} {S : Sto} : forB (.nm i x p) b w τ S = b (τ.set i (some w)) S := nr rfl
def wipeO (τ : Sg) : List (Str × Nat) → Sg
  | [] => τ
  | p :: r => (wipeO τ r).set p.2 none
theorem wipeO_eq (τ : Sg) : ∀ own : List (Str × Nat), wipeS τ (own.map (·.2)) = wipeO τ own
  | [] => rfl
  | p :: r => by
    simp only [List.map_cons, wipeS, wipeO]
    rw [wipeO_eq τ r]
theorem wO_nil {τ : Sg} : wipeO τ [] = τ := nr rfl
theorem wO_cons {τ : Sg} {x : Str} {n : Nat} {r : List (Str × Nat)} : wipeO τ ((x, n) :: r) = (wipeO τ r).set n none := nr rfl
theorem y_lc {cl : CallO} {gc : Str → Option D} {τ : Sg} {S : Sto} {own : List (Str × Nat)} {elt : E} {g : G} {k : IK} {it ifs : E} {scope : Scope} {p : Pos} : evE cl gc (.lc own elt g k it ifs scope p) τ S = frzL ((itE k (evE cl gc it) (evA cl gc it) τ S).bnd fun iv S1 => lcX iv.gd S1.length (lcB g (evTs cl gc ifs) (evE cl gc elt) (wipeO τ own)) iv.ds (S1 ++ [.lst []])) := by
  rw [x_lc, wipeO_eq]
theorem yf_lc {cl : CallO} {gc : Str → Option D} {τ : Sg} {S : Sto} {own : List (Str × Nat)} {elt : E} {g : G} {k : IK} {it ifs : E} {scope : Scope} {p : Pos} : evF cl gc (.lc own elt g k it ifs scope p) τ S = (itE k (evE cl gc it) (evA cl gc it) τ S).bnd fun iv S1 => lcX iv.gd S1.length (lcB g (evTs cl gc ifs) (evE cl gc elt) (wipeO τ own)) iv.ds (S1 ++ [.lst []]) := by
  rw [f_lc, wipeO_eq]
/-- one turn of a comprehension -/
def keepD (y : W) (S : Sto) : R (Option D) := match y with
  | .d x => .ok (some x) S
  | .ref _ => .bad
theorem keepD_d {x : D} {S : Sto} : keepD (.d x) S = .ok (some x) S := nr rfl
theorem lb_eq {i : Nat} {x : Str} {p : Pos} {mt : BM} {me : EM} {w : W} {τ : Sg} {S : Sto} : lcB (.nm i x p) mt me τ w S = (mt (τ.set i (some w)) S).ifE (fun S1 => (me (τ.set i (some w)) S1).bnd keepD) fun S1 => .ok none S1 := by
  simp only [lcB, G.go]
  cases mt (τ.set i (some w)) S with
  | bad => rfl
  | ok b S1 =>
    cases b with
    | false => rfl
    | true => rfl
theorem lst0 {S : Sto} : lstE [] S = .ok [] S := lst_ok' rfl (by rw [sizeLine_eq]; simp)
theorem tup0' {S : Sto} : tupE [] S = .ok (.d (.tup [])) S := tup_ok' rfl (by rw [sizeLine_eq]; simp)
theorem lst1 {a0 : D} {S : Sto} : lstE [.d a0] S = .ok [a0] S := lst_ok' rfl (by rw [sizeLine_eq]; simp)
theorem tup1' {a0 : D} {S : Sto} : tupE [.d a0] S = .ok (.d (.tup [a0])) S := tup_ok' rfl (by rw [sizeLine_eq]; simp)
theorem lst2 {a0 a1 : D} {S : Sto} : lstE [.d a0, .d a1] S = .ok [a0, a1] S := lst_ok' rfl (by rw [sizeLine_eq]; simp)
theorem lst3 {a0 a1 a2 : D} {S : Sto} : lstE [.d a0, .d a1, .d a2] S = .ok [a0, a1, a2] S := lst_ok' rfl (by rw [sizeLine_eq]; simp)
theorem tup3' {a0 a1 a2 : D} {S : Sto} : tupE [.d a0, .d a1, .d a2] S = .ok (.d (.tup [a0, a1, a2])) S := tup_ok' rfl (by rw [sizeLine_eq]; simp)
theorem lst4 {a0 a1 a2 a3 : D} {S : Sto} : lstE [.d a0, .d a1, .d a2, .d a3] S = .ok [a0, a1, a2, a3] S := lst_ok' rfl (by rw [sizeLine_eq]; simp)
theorem tup4' {a0 a1 a2 a3 : D} {S : Sto} : tupE [.d a0, .d a1, .d a2, .d a3] S = .ok (.d (.tup [a0, a1, a2, a3])) S := tup_ok' rfl (by rw [sizeLine_eq]; simp)
theorem lst5 {a0 a1 a2 a3 a4 : D} {S : Sto} : lstE [.d a0, .d a1, .d a2, .d a3, .d a4] S = .ok [a0, a1, a2, a3, a4] S := lst_ok' rfl (by rw [sizeLine_eq]; simp)
theorem tup5' {a0 a1 a2 a3 a4 : D} {S : Sto} : tupE [.d a0, .d a1, .d a2, .d a3, .d a4] S = .ok (.d (.tup [a0, a1, a2, a3, a4])) S := tup_ok' rfl (by rw [sizeLine_eq]; simp)
theorem lst6 {a0 a1 a2 a3 a4 a5 : D} {S : Sto} : lstE [.d a0, .d a1, .d a2, .d a3, .d a4, .d a5] S = .ok [a0, a1, a2, a3, a4, a5] S := lst_ok' rfl (by rw [sizeLine_eq]; simp)
theorem tup6' {a0 a1 a2 a3 a4 a5 : D} {S : Sto} : tupE [.d a0, .d a1, .d a2, .d a3, .d a4, .d a5] S = .ok (.d (.tup [a0, a1, a2, a3, a4, a5])) S := tup_ok' rfl (by rw [sizeLine_eq]; simp)
def b2i : Bool → Int
  | true => 1
  | false => 0
theorem b_intB2 {b : Bool} {S : Sto} : biE .int [.d (.bl b)] S = .ok (.d (.int (b2i b))) S := by cases b <;> rfl
theorem b2i_t : b2i true = 1 := nr rfl
theorem b2i_f : b2i false = 0 := nr rfl
/-- a loop that folds -/
theorem for_fold {α β : Type} {bd : W → Sg → Sto → Fl} {emb : α → D} (f : β → Sg) (s : β → Sto) (st : β → α → β) (P : β → Prop) : ∀ (xs : List α) (b : β), P b → (∀ b, ∀ x ∈ xs, P b → bd (.d (emb x)) (f b) (s b) = .nx (f (st b x)) (s (st b x)) ∧ P (st b x)) →
    forX (fun _ => True) bd (xs.map emb) (f b) (s b) = .nx (f (xs.foldl st b)) (s (xs.foldl st b)) ∧ P (xs.foldl st b)
  | [], b, p, _ => ⟨forX_nil, p⟩
  | x :: xs, b, p, h => by
    obtain ⟨h1, h2⟩ := h b x (by simp) p
    obtain ⟨h3, h4⟩ := for_fold f s st P xs (st b x) h2 fun b y hy => h b y (by simp [hy])
    refine ⟨?_, h4⟩
    rw [List.map_cons, forX_cons, h1]
    exact h3
/-- a loop by what holds between its turns -/
theorem for_ex {bd : W → Sg → Sto → Fl} (I : Sg → Sto → Prop) : ∀ (ds : List D) (τ : Sg) (S : Sto), I τ S → (∀ d ∈ ds, ∀ τ S, I τ S → ∃ τ' S', (bd (.d d) τ S = .nx τ' S' ∨ bd (.d d) τ S = .ct τ' S') ∧ I τ' S') → ∃ τ' S', forX (fun _ => True) bd ds τ S = .nx τ' S' ∧ I τ' S'
  | [], τ, S, i, _ => ⟨τ, S, forX_nil, i⟩
  | d :: ds, τ, S, i, h => by
    obtain ⟨τ1, S1, h1, i1⟩ := h d (by simp) τ S i
    obtain ⟨τ2, S2, h2, i2⟩ := for_ex I ds τ1 S1 i1 fun e he => h e (by simp [he])
    refine ⟨τ2, S2, ?_, i2⟩
    rw [forX_cons]
    rcases h1 with h1 | h1
    · rw [h1]; exact h2
    · rw [h1]; exact h2
theorem get_last {S : Sto} {o : Ob} : (S ++ [o])[S.length]? = some o := by simp
theorem set_last {S : Sto} {o o' : Ob} : (S ++ [o]).set S.length o' = S ++ [o'] := by simp
theorem take_last {S : Sto} {o : Ob} : (S ++ [o]).take S.length = S := by simp
theorem lcX_nil {k : Nat} {bd : W → Sto → R (Option D)} {S : Sto} {acc : List D} (h : S.length = k) : lcX (fun _ => True) k bd [] (S ++ [.lst acc]) = .ok acc S := by
  subst h
  rw [lcX, if_pos trivial, get_last]
  simp only [take_last]
/-- a comprehension whose turns leave the store -/
theorem lc_map {α : Type} {bd : W → Sto → R (Option D)} {emb : α → D} (g : α → Option D) (S : Sto) : ∀ (xs : List α) (acc : List D), (∀ x ∈ xs, ∀ acc, bd (.d (emb x)) (S ++ [.lst acc]) = .ok (g x) (S ++ [.lst acc])) → acc.length + xs.length ≤ 1000000 →
    lcX (fun _ => True) S.length bd (xs.map emb) (S ++ [.lst acc]) = .ok (acc ++ xs.filterMap g) S
  | [], acc, _, _ => by simp [lcX_nil]
  | x :: xs, acc, h, hl => by
    rw [List.length_cons] at hl
    have sl : sizeLine = 16777216 := sizeLine_eq
    rw [List.map_cons, lcX, if_pos trivial, h x (by simp)]
    cases e : g x with
    | none =>
      simp only [R.bnd_ok]
      rw [lc_map g S xs acc (fun y hy => h y (by simp [hy])) (by omega)]
      simp [e]
    | some d =>
      simp only [R.bnd_ok, get_last, set_last]
      rw [if_pos (by omega), lc_map g S xs (acc ++ [d]) (fun y hy => h y (by simp [hy])) (by simp; omega)]
      simp [e]
/-- .. by what holds between its turns -/
theorem lc_ex {bd : W → Sto → R (Option D)} (I : Sto → Prop) (G : D → Prop) (n : Nat) (hI : ∀ S, I S → S.length = n) : ∀ (ds : List D) (S : Sto) (acc : List D), I S → (∀ d ∈ ds, ∀ S acc, I S → ∃ x S', bd (.d d) (S ++ [.lst acc]) = .ok (some x) (S' ++ [.lst acc]) ∧ I S' ∧ G x) → acc.length + ds.length ≤ 1000000 →
    ∃ xs S', lcX (fun _ => True) n bd ds (S ++ [.lst acc]) = .ok (acc ++ xs) S' ∧ I S' ∧ (∀ x ∈ xs, G x) ∧ xs.length = ds.length
  | [], S, acc, i, _, _ => ⟨[], S, by simp [lcX_nil (hI S i)], i, by simp, rfl⟩
  | d :: ds, S, acc, i, h, hl => by
    rw [List.length_cons] at hl
    have sl : sizeLine = 16777216 := sizeLine_eq
    obtain ⟨x, S1, h1, i1, g1⟩ := h d (by simp) S acc i
    obtain ⟨xs, S2, h2, i2, g2, l2⟩ := lc_ex I G n hI ds S1 (acc ++ [x]) i1 (fun e he => h e (by simp [he])) (by simp; omega)
    refine ⟨x :: xs, S2, ?_, i2, ?_, by simp [l2]⟩
    · rw [lcX, if_pos trivial, h1]
      simp only [R.bnd_ok]
      rw [show n = S1.length from (hI S1 i1).symm] at h2 ⊢
      simp only [get_last, set_last]
      rw [if_pos (by omega), h2]
      simp
    · intro y hy
      rcases List.mem_cons.mp hy with rfl | hy
      · exact g1
      · exact g2 y hy
/-! a list of the store, by its place -/
section
variable {S : Sto} {n : Nat}
theorem r_get {o : Ob} (h : n < S.length) : (S.set n o)[n]? = some o := by simp [h]
theorem r_set {o o' : Ob} : (S.set n o).set n o' = S.set n o' := by simp
theorem r_self {o : Ob} (h : S[n]? = some o) : S.set n o = S := by
  obtain ⟨hl, e⟩ := List.getElem?_eq_some_iff.mp h
  rw [← e]
  simp
theorem r_ix {xs : List D} {i : Int} {d : D} (h : n < S.length) (e : atI xs i = some d) : ixE (.ref n) (.d (.int i)) (S.set n (.lst xs)) = .ok (.d d) (S.set n (.lst xs)) := by
  simp only [ixE, rd, r_get h, e]
theorem r_ix0 {a : D} {r : List D} (h : n < S.length) : ixE (.ref n) (.d (.int 0)) (S.set n (.lst (a :: r))) = .ok (.d a) (S.set n (.lst (a :: r))) := r_ix h (atI_nat (j := 0) rfl)
theorem r_ix1 {a b : D} {r : List D} (h : n < S.length) : ixE (.ref n) (.d (.int 1)) (S.set n (.lst (a :: b :: r))) = .ok (.d b) (S.set n (.lst (a :: b :: r))) := r_ix h (atI_nat (j := 1) rfl)
theorem r_ix2 {a b c : D} {r : List D} (h : n < S.length) : ixE (.ref n) (.d (.int 2)) (S.set n (.lst (a :: b :: c :: r))) = .ok (.d c) (S.set n (.lst (a :: b :: c :: r))) := r_ix h (atI_nat (j := 2) rfl)
theorem ixN_0 {n : Nat} : ixN (n + 1) 0 = some 0 := by
  unfold ixN
  rw [if_pos (by omega), if_pos (by omega)]
  rfl
theorem ixN_1 {n : Nat} : ixN (n + 2) 1 = some 1 := by
  unfold ixN
  rw [if_pos (by omega), if_pos (by omega)]
  rfl
theorem ixN_2 {n : Nat} : ixN (n + 3) 2 = some 2 := by
  unfold ixN
  rw [if_pos (by omega), if_pos (by omega)]
  rfl
theorem r_sub0 {a x : D} {r : List D} (h : n < S.length) : subE (.ref n) (.d (.int 0)) (.d x) (S.set n (.lst (a :: r))) = .ok () (S.set n (.lst (x :: r))) := by
  simp only [subE, r_get h, List.length_cons, ixN_0, r_set, List.set_cons_zero]
theorem r_sub1 {a b x : D} {r : List D} (h : n < S.length) : subE (.ref n) (.d (.int 1)) (.d x) (S.set n (.lst (a :: b :: r))) = .ok () (S.set n (.lst (a :: x :: r))) := by
  simp only [subE, r_get h, List.length_cons, ixN_1, r_set, List.set_cons_succ, List.set_cons_zero]
theorem r_sub2 {a b c x : D} {r : List D} (h : n < S.length) : subE (.ref n) (.d (.int 2)) (.d x) (S.set n (.lst (a :: b :: c :: r))) = .ok () (S.set n (.lst (a :: b :: x :: r))) := by
  simp only [subE, r_get h, List.length_cons, ixN_2, r_set, List.set_cons_succ, List.set_cons_zero]
theorem mulL {i j : Int} (h : i.natAbs < 2 ^ 63) : IntMulOk i j := IntMulOk.of_left (by
  unfold Builtin.Int.intBits
  split
  · omega
  · have := PySem.Flt.log2_lt_of (by decide : 0 < 63) h
    omega)
theorem mulR {i j : Int} (h : j.natAbs < 2 ^ 63) : IntMulOk i j := IntMulOk.of_right (by
  unfold Builtin.Int.intBits
  split
  · omega
  · have := PySem.Flt.log2_lt_of (by decide : 0 < 63) h
    omega)
theorem o_mulL {i j : Int} {S : Sto} (h : i.natAbs < 2 ^ 63) : opE .Mult (.d (.int i)) (.d (.int j)) S = .ok (.d (.int (i * j))) S := o_mul (mulL h)
theorem o_mulR {i j : Int} {S : Sto} (h : j.natAbs < 2 ^ 63) : opE .Mult (.d (.int i)) (.d (.int j)) S = .ok (.d (.int (i * j))) S := o_mul (mulR h)
theorem o_powC {i j : Int} {S : Sto} (h0 : 0 ≤ j) (h1 : j ≤ 1000000) (h2 : i.natAbs < 2 ^ 64) : opE .Pow (.d (.int i)) (.d (.int j)) S = .ok (.d (.int (i ^ j.toNat))) S := o_pow ⟨h0, h1, h2⟩
theorem o_modC {i j : Int} {S : Sto} (h : 0 < j) : opE .Mod (.d (.int i)) (.d (.int j)) S = .ok (.d (.int (i % j))) S := by
  rw [o_mod (by omega), Int.fmod_eq_emod_of_nonneg _ (by omega)]
theorem o_divC {i j : Int} {S : Sto} (h : 0 < j) (h2 : j < 2 ^ 62) : opE .FloorDiv (.d (.int i)) (.d (.int j)) S = .ok (.d (.int (i / j))) S := by
  rw [o_div (by omega) (log_ok (b := 62) (by omega) (by decide)), Int.fdiv_eq_ediv_of_nonneg _ (by omega)]
end
end TM

set_option Elab.async false
set_option linter.all false
set_option maxRecDepth 100000
set_option maxHeartbeats 400000
/-! Fractions shown and compared. -/
namespace TM
open PySem PySem.Spec PyProof.Rows L2
def qP (r : Rat) : PyData := .tuple [.int r.num, .int r.den]
theorem qD_py (r : Rat) : (qD r).py = some (qP r) := by simp [qD, D.py, pys, qP]
theorem qP_shaped (r : Rat) : SeqAt.shaped (qP r) = true := by
  simp [SeqAt.shaped, qP, PyData.canLay0, PyData.canLayAll0, PyData.depth, PyData.depthAll]
theorem qP_eqv (a b : Rat) : PyData.eqv (qP a) (qP b) = decide (a = b) := by
  by_cases h : a = b
  · subst h
    simp [qP, PyData.eqv, PyData.eqvAll]
  · rw [decide_eq_false h]
    simp only [qP, PyData.eqv, PyData.eqvAll, Bool.and_true]
    by_cases h1 : a.num = b.num
    · have h2 : a.den ≠ b.den := fun h2 => h (Rat.ext h1 h2)
      have : ((a.den : Int) == (b.den : Int)) = false := beq_eq_false_iff_ne.mpr (by omega)
      rw [this, Bool.and_false]
    · rw [beq_eq_false_iff_ne.mpr h1, Bool.false_and]
theorem q_neq {a b : Rat} {S : Sto} : cmpE .NotEq (.d (qD a)) (.d (qD b)) S = .ok (.d (.bl (!decide (a = b)))) S := by
  have e : cmpE .NotEq (.d (qD a)) (.d (qD b)) S = eqE true (.d (qD a)) (.d (qD b)) S := by unfold qD; simp only [cmpE, rd]
  rw [e]
  simp only [eqE, rd, Option.bind_some, qD_py, qP_shaped, qP_eqv, and_self, if_true]
theorem q_eq {a b : Rat} {S : Sto} : cmpE .Eq (.d (qD a)) (.d (qD b)) S = .ok (.d (.bl (decide (a = b)))) S := by
  have e : cmpE .Eq (.d (qD a)) (.d (qD b)) S = eqE false (.d (qD a)) (.d (qD b)) S := by unfold qD; simp only [cmpE, rd]
  rw [e]
  simp only [eqE, rd, Option.bind_some, qD_py, qP_shaped, qP_eqv, and_self, if_true]
  rfl
theorem q_repr {r : Rat} {S : Sto} (h : bd 1900 r) : biE .repr [.d (qD r)] S = .ok (.d (.str (qP r).shown)) S := by
  have h1 : r.num.natAbs.log2 < 1900 := PySem.Flt.log2_lt_of (by decide) h.1
  have h2 : r.den.log2 < 1900 := PySem.Flt.log2_lt_of (by decide) h.2
  have hs : (qP r).showable = true := by
    simp only [qP, PyData.showable, PyData.showableAll, Bool.and_true, Bool.and_eq_true, decide_eq_true_eq, Int.natAbs_natCast]
    omega
  have hd : (qP r).depth ≤ 60 := by simp [qP, PyData.depth, PyData.depthAll]
  have hl : (qP r).shown.length ≤ sizeLine := by
    have e := tupleText_len_le (PyData.shownAll [.int r.num, .int r.den])
    have a1 := int_text_length_le (a := r.num) (k := 1900) (by decide) h1
    have a2 := int_text_length_le (a := (r.den : Int)) (k := 1900) (by decide) (by simpa using h2)
    have sl : sizeLine = 16777216 := sizeLine_eq
    simp only [qP, PyData.shown]
    simp only [PyData.shownAll, PyData.shown, List.map_cons, List.map_nil, List.sum_cons, List.sum_nil, List.length_cons, List.length_nil, PySem.ofString_length] at e ⊢
    omega
  simp only [biE, rd, Option.bind_some, qD_py, hs, hd, hl, and_self, if_true]
mutual
theorem eqv_refl : ∀ {d : D} {p : PyData}, d.py = some p → PyData.eqv p p = true
  | .non, _, h => by cases h; rfl
  | .bl _, _, h => by cases h; simp [PyData.eqv]
  | .int _, _, h => by cases h; simp [PyData.eqv]
  | .str _, _, h => by cases h; simp [PyData.eqv]
  | .lst xs, _, h => by
    simp only [D.py] at h
    cases q : pys xs with
    | none => rw [q] at h; cases h
    | some es => rw [q] at h; cases h; simp only [PyData.eqv]; exact eqvAll_refl q
  | .tup xs, _, h => by
    simp only [D.py] at h
    cases q : pys xs with
    | none => rw [q] at h; cases h
    | some es => rw [q] at h; cases h; simp only [PyData.eqv]; exact eqvAll_refl q
  | .ins _ _, _, h => by simp only [D.py] at h; cases h
theorem eqvAll_refl : ∀ {d : List D} {p : List PyData}, pys d = some p → PyData.eqvAll p p = true
  | [], _, h => by cases h; rfl
  | x :: r, _, h => by
    simp only [pys] at h
    cases q1 : x.py with
    | none => rw [q1] at h; cases h
    | some y =>
      cases q2 : pys r with
      | none => rw [q1, q2] at h; cases h
      | some ys => rw [q1, q2] at h; cases h; simp only [PyData.eqvAll, eqv_refl q1, eqvAll_refl q2, Bool.and_self]
end
/-- a list is not unlike itself -/
theorem l_self {xs : List D} {ps : List PyData} {S : Sto} (h : pys xs = some ps) (hs : SeqAt.shaped (.list ps) = true) : cmpE .NotEq (.d (.lst xs)) (.d (.lst xs)) S = .ok (.d (.bl false)) S := by
  have e0 : cmpE .NotEq (.d (.lst xs)) (.d (.lst xs)) S = eqE true (.d (.lst xs)) (.d (.lst xs)) S := by simp only [cmpE, rd]
  rw [e0]
  have e : (D.lst xs).py = some (.list ps) := by simp only [D.py, h, Option.map_some]
  have r : PyData.eqv (.list ps) (.list ps) = true := eqv_refl e
  simp only [eqE, rd, Option.bind_some, e, hs, r, and_self, if_true, Bool.not_true]
end TM

set_option maxHeartbeats 1000000
namespace K35
open PySem PySem.Spec PyProof.Rows L2 TM
def topS (i : Nat) : Stmt := PySem.Challenge.pw_talkmeans_k35_spreads.main.body.getD i (.Pass ⟨0, 0, 0, 0⟩)
def fsN : List Str := ["greatest_part", "ratio", "ratio_of", "minus", "less", "greatest", "least", "spread", "_law_box", "_law_take", "_law_pick", "_law_mixed", "_law_ratio", "_law_plus", "_law_value", "_law_pair", "_law_less", "law"]
def fsB (f : Str) : Bool := fsN.contains f
def gc (_ : Str) : Option D := none
def cA0 (_ : Str) : Option Addr := none
def b_greatest_part : C := (.cons (.par 0 "one" ⟨3,4,3,7⟩ 1 "other" ⟨3,9,3,14⟩ 0 ⟨3,4,3,14⟩ false (.bi .abs (.acons (.var 0 "one" ⟨3,22,3,25⟩) .anil) ⟨3,18,3,21⟩ ⟨3,18,3,26⟩) false (.bi .abs (.acons (.var 1 "other" ⟨3,32,3,37⟩) .anil) ⟨3,28,3,31⟩ ⟨3,28,3,38⟩) 0 ⟨3,17,3,39⟩ ⟨3,4,3,39⟩) (.cons (.whl (.cmp .Gt (.var 1 "other" ⟨4,10,4,15⟩) (.int (0) 0 ⟨4,18,4,19⟩) ⟨4,10,4,19⟩) (.cons (.par 0 "one" ⟨5,8,5,11⟩ 1 "other" ⟨5,13,5,18⟩ 0 ⟨5,8,5,18⟩ false (.var 1 "other" ⟨5,22,5,27⟩) false (.bin .Mod (.var 0 "one" ⟨5,29,5,32⟩) (.var 1 "other" ⟨5,35,5,40⟩) ⟨5,29,5,40⟩) 0 ⟨5,21,5,41⟩ ⟨5,8,5,41⟩) .nil) ⟨4,4,5,41⟩) (.cons (.ret (.var 0 "one" ⟨6,11,6,14⟩) ⟨6,4,6,14⟩) .nil)))
def F_greatest_part : Fn := ⟨["one", "other"], ["one", "other"], false, b_greatest_part⟩
theorem e_greatest_part : defBody (topS 1) = F_greatest_part.body.uns := by kernel_rfl
theorem w_greatest_part : F_greatest_part.wf fsB (topS 1) = true := by decide +kernel
def b_ratio : C := (.cons (.set 2 "part" ⟨8,4,8,8⟩ (.call "greatest_part" (.acons (.var 0 "upper" ⟨8,25,8,30⟩) (.acons (.var 1 "lower" ⟨8,32,8,37⟩) .anil)) ⟨8,11,8,24⟩ ⟨8,11,8,38⟩) ⟨8,4,8,38⟩) (.cons (.iff (.cmp .Lt (.var 1 "lower" ⟨9,7,9,12⟩) (.int (0) 0 ⟨9,15,9,16⟩) ⟨9,7,9,16⟩) (.cons (.set 2 "part" ⟨10,8,10,12⟩ (.neg (.var 2 "part" ⟨10,16,10,20⟩) ⟨10,15,10,20⟩) ⟨10,8,10,20⟩) .nil) .nil ⟨9,4,10,20⟩) (.cons (.ret (.tup (.acons (.bin .FloorDiv (.var 0 "upper" ⟨11,12,11,17⟩) (.var 2 "part" ⟨11,21,11,25⟩) ⟨11,12,11,25⟩) (.acons (.bin .FloorDiv (.var 1 "lower" ⟨11,27,11,32⟩) (.var 2 "part" ⟨11,36,11,40⟩) ⟨11,27,11,40⟩) .anil)) 0 ⟨11,11,11,41⟩) ⟨11,4,11,41⟩) .nil)))
def F_ratio : Fn := ⟨["upper", "lower"], ["upper", "lower", "part"], false, b_ratio⟩
theorem e_ratio : defBody (topS 2) = F_ratio.body.uns := by kernel_rfl
theorem w_ratio : F_ratio.wf fsB (topS 2) = true := by decide +kernel
def b_ratio_of : C := (.cons (.ret (.ite (.isi (.var 0 "value" ⟨13,51,13,56⟩) .tuple ⟨13,40,13,50⟩ ⟨13,58,13,63⟩ ⟨13,40,13,64⟩) (.call "ratio" (.acons (.ix (.var 0 "value" ⟨13,17,13,22⟩) (.int (0) 0 ⟨13,23,13,24⟩) ⟨13,17,13,25⟩) (.acons (.ix (.var 0 "value" ⟨13,27,13,32⟩) (.int (1) 0 ⟨13,33,13,34⟩) ⟨13,27,13,35⟩) .anil)) ⟨13,11,13,16⟩ ⟨13,11,13,36⟩) (.tup (.acons (.var 0 "value" ⟨13,71,13,76⟩) (.acons (.int (1) 0 ⟨13,78,13,79⟩) .anil)) 0 ⟨13,70,13,80⟩) ⟨13,11,13,80⟩) ⟨13,4,13,80⟩) .nil)
def F_ratio_of : Fn := ⟨["value"], ["value"], false, b_ratio_of⟩
theorem e_ratio_of : defBody (topS 3) = F_ratio_of.body.uns := by kernel_rfl
theorem w_ratio_of : F_ratio_of.wf fsB (topS 3) = true := by decide +kernel
def b_minus : C := (.cons (.ret (.call "ratio" (.acons (.bin .Sub (.bin .Mult (.ix (.var 0 "one" ⟨15,17,15,20⟩) (.int (0) 0 ⟨15,21,15,22⟩) ⟨15,17,15,23⟩) (.ix (.var 1 "other" ⟨15,26,15,31⟩) (.int (1) 0 ⟨15,32,15,33⟩) ⟨15,26,15,34⟩) ⟨15,17,15,34⟩) (.bin .Mult (.ix (.var 1 "other" ⟨15,37,15,42⟩) (.int (0) 0 ⟨15,43,15,44⟩) ⟨15,37,15,45⟩) (.ix (.var 0 "one" ⟨15,48,15,51⟩) (.int (1) 0 ⟨15,52,15,53⟩) ⟨15,48,15,54⟩) ⟨15,37,15,54⟩) ⟨15,17,15,54⟩) (.acons (.bin .Mult (.ix (.var 0 "one" ⟨15,56,15,59⟩) (.int (1) 0 ⟨15,60,15,61⟩) ⟨15,56,15,62⟩) (.ix (.var 1 "other" ⟨15,65,15,70⟩) (.int (1) 0 ⟨15,71,15,72⟩) ⟨15,65,15,73⟩) ⟨15,56,15,73⟩) .anil)) ⟨15,11,15,16⟩ ⟨15,11,15,74⟩) ⟨15,4,15,74⟩) .nil)
def F_minus : Fn := ⟨["one", "other"], ["one", "other"], false, b_minus⟩
theorem e_minus : defBody (topS 4) = F_minus.body.uns := by kernel_rfl
theorem w_minus : F_minus.wf fsB (topS 4) = true := by decide +kernel
def b_less : C := (.cons (.ret (.cmp .Lt (.bin .Mult (.ix (.var 0 "one" ⟨17,11,17,14⟩) (.int (0) 0 ⟨17,15,17,16⟩) ⟨17,11,17,17⟩) (.ix (.var 1 "other" ⟨17,20,17,25⟩) (.int (1) 0 ⟨17,26,17,27⟩) ⟨17,20,17,28⟩) ⟨17,11,17,28⟩) (.bin .Mult (.ix (.var 1 "other" ⟨17,31,17,36⟩) (.int (0) 0 ⟨17,37,17,38⟩) ⟨17,31,17,39⟩) (.ix (.var 0 "one" ⟨17,42,17,45⟩) (.int (1) 0 ⟨17,46,17,47⟩) ⟨17,42,17,48⟩) ⟨17,31,17,48⟩) ⟨17,11,17,48⟩) ⟨17,4,17,48⟩) .nil)
def F_less : Fn := ⟨["one", "other"], ["one", "other"], false, b_less⟩
theorem e_less : defBody (topS 5) = F_less.body.uns := by kernel_rfl
theorem w_less : F_less.wf fsB (topS 5) = true := by decide +kernel
def b_greatest : C := (.cons (.set 1 "found" ⟨19,4,19,9⟩ (.ix (.var 0 "some" ⟨19,12,19,16⟩) (.int (0) 0 ⟨19,17,19,18⟩) ⟨19,12,19,19⟩) ⟨19,4,19,19⟩) (.cons (.for_ (.nm 2 "one" ⟨20,8,20,11⟩) .val (.var 0 "some" ⟨20,15,20,19⟩) (.cons (.iff (.call "less" (.acons (.var 1 "found" ⟨21,16,21,21⟩) (.acons (.var 2 "one" ⟨21,23,21,26⟩) .anil)) ⟨21,11,21,15⟩ ⟨21,11,21,27⟩) (.cons (.set 1 "found" ⟨22,12,22,17⟩ (.var 2 "one" ⟨22,20,22,23⟩) ⟨22,12,22,23⟩) .nil) .nil ⟨21,8,22,23⟩) .nil) ⟨20,4,22,23⟩) (.cons (.ret (.var 1 "found" ⟨23,11,23,16⟩) ⟨23,4,23,16⟩) .nil)))
def F_greatest : Fn := ⟨["some"], ["some", "found", "one"], false, b_greatest⟩
theorem e_greatest : defBody (topS 6) = F_greatest.body.uns := by kernel_rfl
theorem w_greatest : F_greatest.wf fsB (topS 6) = true := by decide +kernel
def b_least : C := (.cons (.set 1 "found" ⟨25,4,25,9⟩ (.ix (.var 0 "some" ⟨25,12,25,16⟩) (.int (0) 0 ⟨25,17,25,18⟩) ⟨25,12,25,19⟩) ⟨25,4,25,19⟩) (.cons (.for_ (.nm 2 "one" ⟨26,8,26,11⟩) .val (.var 0 "some" ⟨26,15,26,19⟩) (.cons (.iff (.call "less" (.acons (.var 2 "one" ⟨27,16,27,19⟩) (.acons (.var 1 "found" ⟨27,21,27,26⟩) .anil)) ⟨27,11,27,15⟩ ⟨27,11,27,27⟩) (.cons (.set 1 "found" ⟨28,12,28,17⟩ (.var 2 "one" ⟨28,20,28,23⟩) ⟨28,12,28,23⟩) .nil) .nil ⟨27,8,28,23⟩) .nil) ⟨26,4,28,23⟩) (.cons (.ret (.var 1 "found" ⟨29,11,29,16⟩) ⟨29,4,29,16⟩) .nil)))
def F_least : Fn := ⟨["some"], ["some", "found", "one"], false, b_least⟩
theorem e_least : defBody (topS 7) = F_least.body.uns := by kernel_rfl
theorem w_least : F_least.wf fsB (topS 7) = true := by decide +kernel
def b_spread : C := (.cons (.set 1 "some" ⟨32,4,32,8⟩ (.lc [("number", 2)] (.call "ratio_of" (.acons (.var 2 "number" ⟨32,21,32,27⟩) .anil) ⟨32,12,32,20⟩ ⟨32,12,32,28⟩) (.nm 2 "number" ⟨32,33,32,39⟩) .val (.var 0 "numbers" ⟨32,43,32,50⟩) .anil {kind := .function, names := [(".0", .local), ("number", .local), ("ratio_of", .globalImplicit)], isGenerator := false, isCoroutine := false, more := []} ⟨32,11,32,51⟩) ⟨32,4,32,51⟩) (.cons (.ret (.call "minus" (.acons (.call "greatest" (.acons (.var 1 "some" ⟨33,26,33,30⟩) .anil) ⟨33,17,33,25⟩ ⟨33,17,33,31⟩) (.acons (.call "least" (.acons (.var 1 "some" ⟨33,39,33,43⟩) .anil) ⟨33,33,33,38⟩ ⟨33,33,33,44⟩) .anil)) ⟨33,11,33,16⟩ ⟨33,11,33,45⟩) ⟨33,4,33,45⟩) .nil))
def F_spread : Fn := ⟨["numbers"], ["numbers", "some", "number"], false, b_spread⟩
theorem e_spread : defBody (topS 9) = F_spread.body.uns := by kernel_rfl
theorem w_spread : F_spread.wf fsB (topS 9) = true := by decide +kernel
def b_law_box : C := (.cons (.set 3 "_law_cell" ⟨36,4,36,13⟩ (.bin .Add (.bin .Add (.bin .Mult (.int (9001) 0 ⟨36,16,36,20⟩) (.var 1 "_law_k" ⟨36,23,36,29⟩) ⟨36,16,36,29⟩) (.bin .Mult (.int (104827) 0 ⟨36,32,36,38⟩) (.var 2 "_law_own" ⟨36,41,36,49⟩) ⟨36,32,36,49⟩) ⟨36,16,36,49⟩) (.int (89) 0 ⟨36,52,36,54⟩) ⟨36,16,36,54⟩) ⟨36,4,36,54⟩) (.cons (.iff (.cmp .Lt (.var 1 "_law_k" ⟨37,7,37,13⟩) (.bi .len (.acons (.var 0 "_law_script" ⟨37,20,37,31⟩) .anil) ⟨37,16,37,19⟩ ⟨37,16,37,32⟩) ⟨37,7,37,32⟩) (.cons (.set 3 "_law_cell" ⟨38,8,38,17⟩ (.bi .abs (.acons (.ix (.var 0 "_law_script" ⟨38,24,38,35⟩) (.var 1 "_law_k" ⟨38,36,38,42⟩) ⟨38,24,38,43⟩) .anil) ⟨38,20,38,23⟩ ⟨38,20,38,44⟩) ⟨38,8,38,44⟩) .nil) (.cons (.iff (.cmp .Gt (.bi .len (.acons (.var 0 "_law_script" ⟨39,13,39,24⟩) .anil) ⟨39,9,39,12⟩ ⟨39,9,39,25⟩) (.int (0) 0 ⟨39,28,39,29⟩) ⟨39,9,39,29⟩) (.cons (.set 3 "_law_cell" ⟨40,8,40,17⟩ (.bin .Add (.var 3 "_law_cell" ⟨40,20,40,29⟩) (.bin .Mult (.bin .Mod (.bi .int (.acons (.bi .abs (.acons (.ix (.var 0 "_law_script" ⟨40,40,40,51⟩) (.bin .Mod (.bi .int (.acons (.var 1 "_law_k" ⟨40,56,40,62⟩) .anil) ⟨40,52,40,55⟩ ⟨40,52,40,63⟩) (.bi .len (.acons (.var 0 "_law_script" ⟨40,70,40,81⟩) .anil) ⟨40,66,40,69⟩ ⟨40,66,40,82⟩) ⟨40,52,40,82⟩) ⟨40,40,40,83⟩) .anil) ⟨40,36,40,39⟩ ⟨40,36,40,84⟩) .anil) ⟨40,32,40,35⟩ ⟨40,32,40,85⟩) (.int (2147483629) 0 ⟨40,88,40,98⟩) ⟨40,32,40,98⟩) (.int (69827) 0 ⟨40,101,40,106⟩) ⟨40,32,40,106⟩) ⟨40,20,40,106⟩) ⟨40,8,40,106⟩) .nil) .nil ⟨39,4,40,106⟩) .nil) ⟨37,4,40,106⟩) (.cons (.set 4 "_law_seed" ⟨41,4,41,13⟩ (.bin .Add (.bin .Mod (.bi .int (.acons (.bin .Add (.bin .Mult (.bin .Mod (.bi .int (.acons (.var 3 "_law_cell" ⟨41,24,41,33⟩) .anil) ⟨41,20,41,23⟩ ⟨41,20,41,34⟩) (.int (2147483629) 0 ⟨41,37,41,47⟩) ⟨41,20,41,47⟩) (.int (48271) 0 ⟨41,50,41,55⟩) ⟨41,20,41,55⟩) (.bin .Mult (.int (40692) 0 ⟨41,58,41,63⟩) (.bin .Add (.var 1 "_law_k" ⟨41,67,41,73⟩) (.bin .Mult (.int (11) 0 ⟨41,76,41,78⟩) (.var 2 "_law_own" ⟨41,81,41,89⟩) ⟨41,76,41,89⟩) ⟨41,67,41,89⟩) ⟨41,58,41,90⟩) ⟨41,20,41,90⟩) .anil) ⟨41,16,41,19⟩ ⟨41,16,41,91⟩) (.int (2147483629) 0 ⟨41,94,41,104⟩) ⟨41,16,41,104⟩) (.int (1) 0 ⟨41,107,41,108⟩) ⟨41,16,41,108⟩) ⟨41,4,41,108⟩) (.cons (.retm (.lst (.acons (.ix (.lst (.acons (.int (0) 0 ⟨42,13,42,14⟩) (.acons (.var 3 "_law_cell" ⟨42,16,42,25⟩) .anil)) ⟨42,12,42,26⟩) (.bi .int (.acons (.cmp .GtE (.var 3 "_law_cell" ⟨42,31,42,40⟩) (.bin .Pow (.int (10) 0 ⟨42,44,42,46⟩) (.int (18) 0 ⟨42,50,42,52⟩) ⟨42,44,42,52⟩) ⟨42,31,42,52⟩) .anil) ⟨42,27,42,30⟩ ⟨42,27,42,53⟩) ⟨42,12,42,54⟩) (.acons (.var 4 "_law_seed" ⟨42,56,42,65⟩) (.acons (.int (0) 0 ⟨42,67,42,68⟩) .anil))) ⟨42,11,42,69⟩) ⟨42,4,42,69⟩) .nil))))
def F_law_box : Fn := ⟨["_law_script", "_law_k", "_law_own"], ["_law_script", "_law_k", "_law_own", "_law_cell", "_law_seed"], true, b_law_box⟩
theorem e_law_box : defBody (topS 11) = F_law_box.body.uns := by kernel_rfl
theorem w_law_box : F_law_box.wf fsB (topS 11) = true := by decide +kernel
def b_law_take : C := (.cons (.iff (.cmp .Gt (.ix (.var 0 "_law_box_here" ⟨44,7,44,20⟩) (.int (0) 0 ⟨44,21,44,22⟩) ⟨44,7,44,23⟩) (.int (0) 0 ⟨44,26,44,27⟩) ⟨44,7,44,27⟩) (.cons (.set 2 "_law_digit" ⟨45,8,45,18⟩ (.bin .Mod (.bi .int (.acons (.ix (.var 0 "_law_box_here" ⟨45,25,45,38⟩) (.int (0) 0 ⟨45,39,45,40⟩) ⟨45,25,45,41⟩) .anil) ⟨45,21,45,24⟩ ⟨45,21,45,42⟩) (.var 1 "_law_many" ⟨45,45,45,54⟩) ⟨45,21,45,54⟩) ⟨45,8,45,54⟩) (.cons (.sub (.var 0 "_law_box_here" ⟨46,8,46,21⟩) (.int (0) 0 ⟨46,22,46,23⟩) (.bin .FloorDiv (.ix (.var 0 "_law_box_here" ⟨46,27,46,40⟩) (.int (0) 0 ⟨46,41,46,42⟩) ⟨46,27,46,43⟩) (.var 1 "_law_many" ⟨46,47,46,56⟩) ⟨46,27,46,56⟩) ⟨46,8,46,24⟩ ⟨46,8,46,56⟩) (.cons (.ret (.var 2 "_law_digit" ⟨47,15,47,25⟩) ⟨47,8,47,25⟩) .nil))) .nil ⟨44,4,47,25⟩) (.cons (.sub (.var 0 "_law_box_here" ⟨48,4,48,17⟩) (.int (2) 0 ⟨48,18,48,19⟩) (.bin .Add (.ix (.var 0 "_law_box_here" ⟨48,23,48,36⟩) (.int (2) 0 ⟨48,37,48,38⟩) ⟨48,23,48,39⟩) (.int (1) 0 ⟨48,42,48,43⟩) ⟨48,23,48,43⟩) ⟨48,4,48,20⟩ ⟨48,4,48,43⟩) (.cons (.set 3 "_law_raw" ⟨49,4,49,12⟩ (.bin .Mod (.bi .int (.acons (.bin .Mult (.bin .Add (.ix (.var 0 "_law_box_here" ⟨49,20,49,33⟩) (.int (1) 0 ⟨49,34,49,35⟩) ⟨49,20,49,36⟩) (.bin .Mult (.int (104729) 0 ⟨49,39,49,45⟩) (.ix (.var 0 "_law_box_here" ⟨49,48,49,61⟩) (.int (2) 0 ⟨49,62,49,63⟩) ⟨49,48,49,64⟩) ⟨49,39,49,64⟩) ⟨49,20,49,64⟩) (.int (69827) 0 ⟨49,68,49,73⟩) ⟨49,19,49,73⟩) .anil) ⟨49,15,49,18⟩ ⟨49,15,49,74⟩) (.int (2147483647) 0 ⟨49,77,49,87⟩) ⟨49,15,49,87⟩) ⟨49,4,49,87⟩) (.cons (.sub (.var 0 "_law_box_here" ⟨50,4,50,17⟩) (.int (1) 0 ⟨50,18,50,19⟩) (.bin .Add (.bin .Mod (.bi .int (.acons (.bin .Add (.bin .Mult (.var 3 "_law_raw" ⟨50,27,50,35⟩) (.int (48271) 0 ⟨50,38,50,43⟩) ⟨50,27,50,43⟩) (.int (30103) 0 ⟨50,46,50,51⟩) ⟨50,27,50,51⟩) .anil) ⟨50,23,50,26⟩ ⟨50,23,50,52⟩) (.int (2147483629) 0 ⟨50,55,50,65⟩) ⟨50,23,50,65⟩) (.int (1) 0 ⟨50,68,50,69⟩) ⟨50,23,50,69⟩) ⟨50,4,50,20⟩ ⟨50,4,50,69⟩) (.cons (.iff (.cmp .Lt (.var 1 "_law_many" ⟨51,7,51,16⟩) (.bin .Pow (.int (2) 0 ⟨51,19,51,20⟩) (.int (40) 0 ⟨51,24,51,26⟩) ⟨51,19,51,26⟩) ⟨51,7,51,26⟩) (.cons (.ret (.bin .Mod (.bi .int (.acons (.bin .FloorDiv (.bin .Add (.bin .Mult (.var 3 "_law_raw" ⟨52,20,52,28⟩) (.int (2147483647) 0 ⟨52,31,52,41⟩) ⟨52,20,52,41⟩) (.ix (.var 0 "_law_box_here" ⟨52,44,52,57⟩) (.int (1) 0 ⟨52,58,52,59⟩) ⟨52,44,52,60⟩) ⟨52,20,52,60⟩) (.int (8191) 0 ⟨52,65,52,69⟩) ⟨52,19,52,69⟩) .anil) ⟨52,15,52,18⟩ ⟨52,15,52,70⟩) (.var 1 "_law_many" ⟨52,73,52,82⟩) ⟨52,15,52,82⟩) ⟨52,8,52,82⟩) .nil) .nil ⟨51,4,52,82⟩) (.cons (.set 4 "_law_wide" ⟨53,4,53,13⟩ (.bin .Mult (.bin .Add (.bin .Mult (.var 3 "_law_raw" ⟨53,17,53,25⟩) (.int (2147483647) 0 ⟨53,28,53,38⟩) ⟨53,17,53,38⟩) (.ix (.var 0 "_law_box_here" ⟨53,41,53,54⟩) (.int (1) 0 ⟨53,55,53,56⟩) ⟨53,41,53,57⟩) ⟨53,17,53,57⟩) (.bin .Pow (.int (2147483629) 0 ⟨53,61,53,71⟩) (.int (3) 0 ⟨53,75,53,76⟩) ⟨53,61,53,76⟩) ⟨53,16,53,76⟩) ⟨53,4,53,76⟩) (.cons (.ret (.bin .Mod (.bi .int (.acons (.bin .Add (.bin .Add (.var 4 "_law_wide" ⟨54,15,54,24⟩) (.bin .Mult (.bin .Pow (.ix (.var 0 "_law_box_here" ⟨54,27,54,40⟩) (.int (1) 0 ⟨54,41,54,42⟩) ⟨54,27,54,43⟩) (.int (3) 0 ⟨54,47,54,48⟩) ⟨54,27,54,48⟩) (.int (8191) 0 ⟨54,51,54,55⟩) ⟨54,27,54,55⟩) ⟨54,15,54,55⟩) (.var 3 "_law_raw" ⟨54,58,54,66⟩) ⟨54,15,54,66⟩) .anil) ⟨54,11,54,14⟩ ⟨54,11,54,67⟩) (.var 1 "_law_many" ⟨54,70,54,79⟩) ⟨54,11,54,79⟩) ⟨54,4,54,79⟩) .nil)))))))
def F_law_take : Fn := ⟨["_law_box_here", "_law_many"], ["_law_box_here", "_law_many", "_law_digit", "_law_raw", "_law_wide"], false, b_law_take⟩
theorem e_law_take : defBody (topS 12) = F_law_take.body.uns := by kernel_rfl
theorem w_law_take : F_law_take.wf fsB (topS 12) = true := by decide +kernel
def b_law_pick : C := (.cons (.ret (.ix (.var 1 "_law_items" ⟨56,11,56,21⟩) (.call "_law_take" (.acons (.var 0 "_law_box_here" ⟨56,32,56,45⟩) (.acons (.bi .len (.acons (.var 1 "_law_items" ⟨56,51,56,61⟩) .anil) ⟨56,47,56,50⟩ ⟨56,47,56,62⟩) .anil)) ⟨56,22,56,31⟩ ⟨56,22,56,63⟩) ⟨56,11,56,64⟩) ⟨56,4,56,64⟩) .nil)
def F_law_pick : Fn := ⟨["_law_box_here", "_law_items"], ["_law_box_here", "_law_items"], false, b_law_pick⟩
theorem e_law_pick : defBody (topS 13) = F_law_pick.body.uns := by kernel_rfl
theorem w_law_pick : F_law_pick.wf fsB (topS 13) = true := by decide +kernel
def b_law_mixed : C := (.cons (.par 2 "_law_left" ⟨58,4,58,13⟩ 3 "_law_found" ⟨58,15,58,25⟩ 0 ⟨58,4,58,25⟩ true (.fb .list (.acons (.var 1 "_law_items" ⟨58,34,58,44⟩) .anil) ⟨58,29,58,33⟩ ⟨58,29,58,45⟩) true (.lst .anil ⟨58,47,58,49⟩) 0 ⟨58,28,58,50⟩ ⟨58,4,58,50⟩) (.cons (.for_ (.nm 4 "_law_turn" ⟨59,8,59,17⟩) (.rng1 ⟨59,21,59,26⟩ ⟨59,21,59,42⟩) (.acons (.bi .len (.acons (.var 2 "_law_left" ⟨59,31,59,40⟩) .anil) ⟨59,27,59,30⟩ ⟨59,27,59,41⟩) .anil) (.cons (.expr (.mm .append (.var 3 "_law_found" ⟨60,8,60,18⟩) (.acons (.mm .pop (.var 2 "_law_left" ⟨60,26,60,35⟩) (.acons (.call "_law_take" (.acons (.var 0 "_law_box_here" ⟨60,50,60,63⟩) (.acons (.bi .len (.acons (.var 2 "_law_left" ⟨60,69,60,78⟩) .anil) ⟨60,65,60,68⟩ ⟨60,65,60,79⟩) .anil)) ⟨60,40,60,49⟩ ⟨60,40,60,80⟩) .anil) ⟨60,26,60,39⟩ ⟨60,26,60,81⟩) .anil) ⟨60,8,60,25⟩ ⟨60,8,60,82⟩) ⟨60,8,60,82⟩) .nil) ⟨59,4,60,82⟩) (.cons (.ret (.var 3 "_law_found" ⟨61,11,61,21⟩) ⟨61,4,61,21⟩) .nil)))
def F_law_mixed : Fn := ⟨["_law_box_here", "_law_items"], ["_law_box_here", "_law_items", "_law_left", "_law_found", "_law_turn"], false, b_law_mixed⟩
theorem e_law_mixed : defBody (topS 14) = F_law_mixed.body.uns := by kernel_rfl
theorem w_law_mixed : F_law_mixed.wf fsB (topS 14) = true := by decide +kernel
def b_law_ratio : C := (.cons (.par 2 "_law_one" ⟨63,4,63,12⟩ 3 "_law_other" ⟨63,14,63,24⟩ 0 ⟨63,4,63,24⟩ false (.bi .abs (.acons (.var 0 "_law_upper" ⟨63,32,63,42⟩) .anil) ⟨63,28,63,31⟩ ⟨63,28,63,43⟩) false (.var 1 "_law_lower" ⟨63,45,63,55⟩) 0 ⟨63,27,63,56⟩ ⟨63,4,63,56⟩) (.cons (.whl (.cmp .NotEq (.var 3 "_law_other" ⟨64,10,64,20⟩) (.int (0) 0 ⟨64,24,64,25⟩) ⟨64,10,64,25⟩) (.cons (.par 2 "_law_one" ⟨65,8,65,16⟩ 3 "_law_other" ⟨65,18,65,28⟩ 0 ⟨65,8,65,28⟩ false (.var 3 "_law_other" ⟨65,32,65,42⟩) false (.bin .Mod (.bi .int (.acons (.var 2 "_law_one" ⟨65,48,65,56⟩) .anil) ⟨65,44,65,47⟩ ⟨65,44,65,57⟩) (.var 3 "_law_other" ⟨65,60,65,70⟩) ⟨65,44,65,70⟩) 0 ⟨65,31,65,71⟩ ⟨65,8,65,71⟩) .nil) ⟨64,4,65,71⟩) (.cons (.ret (.tup (.acons (.bin .FloorDiv (.var 0 "_law_upper" ⟨66,12,66,22⟩) (.var 2 "_law_one" ⟨66,26,66,34⟩) ⟨66,12,66,34⟩) (.acons (.bin .FloorDiv (.var 1 "_law_lower" ⟨66,36,66,46⟩) (.var 2 "_law_one" ⟨66,50,66,58⟩) ⟨66,36,66,58⟩) .anil)) 0 ⟨66,11,66,59⟩) ⟨66,4,66,59⟩) .nil)))
def F_law_ratio : Fn := ⟨["_law_upper", "_law_lower"], ["_law_upper", "_law_lower", "_law_one", "_law_other"], false, b_law_ratio⟩
theorem e_law_ratio : defBody (topS 15) = F_law_ratio.body.uns := by kernel_rfl
theorem w_law_ratio : F_law_ratio.wf fsB (topS 15) = true := by decide +kernel
def b_law_plus : C := (.cons (.ret (.call "_law_ratio" (.acons (.bin .Add (.bin .Mult (.ix (.var 0 "_law_one" ⟨68,22,68,30⟩) (.int (0) 0 ⟨68,31,68,32⟩) ⟨68,22,68,33⟩) (.ix (.var 1 "_law_other" ⟨68,36,68,46⟩) (.int (1) 0 ⟨68,47,68,48⟩) ⟨68,36,68,49⟩) ⟨68,22,68,49⟩) (.bin .Mult (.ix (.var 1 "_law_other" ⟨68,52,68,62⟩) (.int (0) 0 ⟨68,63,68,64⟩) ⟨68,52,68,65⟩) (.ix (.var 0 "_law_one" ⟨68,68,68,76⟩) (.int (1) 0 ⟨68,77,68,78⟩) ⟨68,68,68,79⟩) ⟨68,52,68,79⟩) ⟨68,22,68,79⟩) (.acons (.bin .Mult (.ix (.var 0 "_law_one" ⟨68,81,68,89⟩) (.int (1) 0 ⟨68,90,68,91⟩) ⟨68,81,68,92⟩) (.ix (.var 1 "_law_other" ⟨68,95,68,105⟩) (.int (1) 0 ⟨68,106,68,107⟩) ⟨68,95,68,108⟩) ⟨68,81,68,108⟩) .anil)) ⟨68,11,68,21⟩ ⟨68,11,68,109⟩) ⟨68,4,68,109⟩) .nil)
def F_law_plus : Fn := ⟨["_law_one", "_law_other"], ["_law_one", "_law_other"], false, b_law_plus⟩
theorem e_law_plus : defBody (topS 16) = F_law_plus.body.uns := by kernel_rfl
theorem w_law_plus : F_law_plus.wf fsB (topS 16) = true := by decide +kernel
def b_law_value : C := (.cons (.set 1 "_law_upper" ⟨70,4,70,14⟩ (.call "_law_pick" (.acons (.var 0 "_law_box_here" ⟨70,27,70,40⟩) (.acons (.lst (.acons (.int (0) 0 ⟨70,43,70,44⟩) (.acons (.int (1) 0 ⟨70,46,70,47⟩) (.acons (.bin .Pow (.int (10) 0 ⟨70,49,70,51⟩) (.int (6) 0 ⟨70,55,70,56⟩) ⟨70,49,70,56⟩) (.acons (.bin .Sub (.int (0) 0 ⟨70,58,70,59⟩) (.int (7) 0 ⟨70,62,70,63⟩) ⟨70,58,70,63⟩) (.acons (.bin .Sub (.call "_law_take" (.acons (.var 0 "_law_box_here" ⟨70,75,70,88⟩) (.acons (.int (40) 0 ⟨70,90,70,92⟩) .anil)) ⟨70,65,70,74⟩ ⟨70,65,70,93⟩) (.int (20) 0 ⟨70,96,70,98⟩) ⟨70,65,70,98⟩) .anil))))) ⟨70,42,70,99⟩) .anil)) ⟨70,17,70,26⟩ ⟨70,17,70,100⟩) ⟨70,4,70,100⟩) (.cons (.ret (.ite (.cmp .Eq (.call "_law_take" (.acons (.var 0 "_law_box_here" ⟨71,35,71,48⟩) (.acons (.int (2) 0 ⟨71,50,71,51⟩) .anil)) ⟨71,25,71,34⟩ ⟨71,25,71,52⟩) (.int (0) 0 ⟨71,56,71,57⟩) ⟨71,25,71,57⟩) (.var 1 "_law_upper" ⟨71,11,71,21⟩) (.tup (.acons (.var 1 "_law_upper" ⟨71,64,71,74⟩) (.acons (.bin .Add (.int (1) 0 ⟨71,76,71,77⟩) (.call "_law_take" (.acons (.var 0 "_law_box_here" ⟨71,90,71,103⟩) (.acons (.int (12) 0 ⟨71,105,71,107⟩) .anil)) ⟨71,80,71,89⟩ ⟨71,80,71,108⟩) ⟨71,76,71,108⟩) .anil)) 0 ⟨71,63,71,109⟩) ⟨71,11,71,109⟩) ⟨71,4,71,109⟩) .nil))
def F_law_value : Fn := ⟨["_law_box_here"], ["_law_box_here", "_law_upper"], false, b_law_value⟩
theorem e_law_value : defBody (topS 17) = F_law_value.body.uns := by kernel_rfl
theorem w_law_value : F_law_value.wf fsB (topS 17) = true := by decide +kernel
def b_law_pair : C := (.cons (.ret (.ite (.isi (.var 0 "_law_value_here" ⟨73,56,73,71⟩) .int ⟨73,45,73,55⟩ ⟨73,73,73,76⟩ ⟨73,45,73,77⟩) (.call "_law_ratio" (.acons (.var 0 "_law_value_here" ⟨73,22,73,37⟩) (.acons (.int (1) 0 ⟨73,39,73,40⟩) .anil)) ⟨73,11,73,21⟩ ⟨73,11,73,41⟩) (.call "_law_ratio" (.acons (.ix (.var 0 "_law_value_here" ⟨73,94,73,109⟩) (.int (0) 0 ⟨73,110,73,111⟩) ⟨73,94,73,112⟩) (.acons (.ix (.var 0 "_law_value_here" ⟨73,114,73,129⟩) (.int (1) 0 ⟨73,130,73,131⟩) ⟨73,114,73,132⟩) .anil)) ⟨73,83,73,93⟩ ⟨73,83,73,133⟩) ⟨73,11,73,133⟩) ⟨73,4,73,133⟩) .nil)
def F_law_pair : Fn := ⟨["_law_value_here"], ["_law_value_here"], false, b_law_pair⟩
theorem e_law_pair : defBody (topS 18) = F_law_pair.body.uns := by kernel_rfl
theorem w_law_pair : F_law_pair.wf fsB (topS 18) = true := by decide +kernel
def b_law_less : C := (.cons (.ret (.cmp .Lt (.bin .Mult (.ix (.var 0 "_law_one" ⟨75,11,75,19⟩) (.int (0) 0 ⟨75,20,75,21⟩) ⟨75,11,75,22⟩) (.ix (.var 1 "_law_other" ⟨75,25,75,35⟩) (.int (1) 0 ⟨75,36,75,37⟩) ⟨75,25,75,38⟩) ⟨75,11,75,38⟩) (.bin .Mult (.ix (.var 1 "_law_other" ⟨75,41,75,51⟩) (.int (0) 0 ⟨75,52,75,53⟩) ⟨75,41,75,54⟩) (.ix (.var 0 "_law_one" ⟨75,57,75,65⟩) (.int (1) 0 ⟨75,66,75,67⟩) ⟨75,57,75,68⟩) ⟨75,41,75,68⟩) ⟨75,11,75,68⟩) ⟨75,4,75,68⟩) .nil)
def F_law_less : Fn := ⟨["_law_one", "_law_other"], ["_law_one", "_law_other"], false, b_law_less⟩
theorem e_law_less : defBody (topS 19) = F_law_less.body.uns := by kernel_rfl
theorem w_law_less : F_law_less.wf fsB (topS 19) = true := by decide +kernel
def b_law : C := (.cons (.for_ (.nm 1 "_law_k" ⟨77,8,77,14⟩) (.rng1 ⟨77,18,77,23⟩ ⟨77,18,77,57⟩) (.acons (.bi .max (.acons (.int (1) 0 ⟨77,28,77,29⟩) (.acons (.bi .min (.acons (.int (4) 0 ⟨77,35,77,36⟩) (.acons (.bi .len (.acons (.var 0 "_law_script" ⟨77,42,77,53⟩) .anil) ⟨77,38,77,41⟩ ⟨77,38,77,54⟩) .anil)) ⟨77,31,77,34⟩ ⟨77,31,77,55⟩) .anil)) ⟨77,24,77,27⟩ ⟨77,24,77,56⟩) .anil) (.cons (.set 2 "_law_box_here" ⟨78,8,78,21⟩ (.call "_law_box" (.acons (.var 0 "_law_script" ⟨78,33,78,44⟩) (.acons (.var 1 "_law_k" ⟨78,46,78,52⟩) (.acons (.int (35) 0 ⟨78,54,78,56⟩) .anil))) ⟨78,24,78,32⟩ ⟨78,24,78,57⟩) ⟨78,8,78,57⟩) (.cons (.for_ (.nm 3 "_law_turn" ⟨79,12,79,21⟩) (.rng1 ⟨79,25,79,30⟩ ⟨79,25,79,33⟩) (.acons (.int (8) 0 ⟨79,31,79,32⟩) .anil) (.cons (.set 4 "_law_numbers" ⟨80,12,80,24⟩ (.lc [("_law_at", 12)] (.call "_law_value" (.acons (.var 2 "_law_box_here" ⟨80,39,80,52⟩) .anil) ⟨80,28,80,38⟩ ⟨80,28,80,53⟩) (.nm 12 "_law_at" ⟨80,58,80,65⟩) (.rng1 ⟨80,69,80,74⟩ ⟨80,69,80,108⟩) (.acons (.bin .Add (.int (1) 0 ⟨80,75,80,76⟩) (.call "_law_take" (.acons (.var 2 "_law_box_here" ⟨80,89,80,102⟩) (.acons (.int (12) 0 ⟨80,104,80,106⟩) .anil)) ⟨80,79,80,88⟩ ⟨80,79,80,107⟩) ⟨80,75,80,107⟩) .anil) .anil {kind := .function, names := [(".0", .local), ("_law_at", .local), ("_law_value", .globalImplicit), ("_law_box_here", .free)], isGenerator := false, isCoroutine := false, more := []} ⟨80,27,80,109⟩) ⟨80,12,80,109⟩) (.cons (.par 5 "_law_pairs" ⟨81,12,81,22⟩ 6 "_law_due" ⟨81,24,81,32⟩ 0 ⟨81,12,81,32⟩ false (.lc [("_law_number", 13)] (.call "_law_pair" (.acons (.var 13 "_law_number" ⟨81,47,81,58⟩) .anil) ⟨81,37,81,46⟩ ⟨81,37,81,59⟩) (.nm 13 "_law_number" ⟨81,64,81,75⟩) .val (.var 4 "_law_numbers" ⟨81,79,81,91⟩) .anil {kind := .function, names := [(".0", .local), ("_law_number", .local), ("_law_pair", .globalImplicit)], isGenerator := false, isCoroutine := false, more := []} ⟨81,36,81,92⟩) false (.tup (.acons (.int (0) 0 ⟨81,95,81,96⟩) (.acons (.int (1) 0 ⟨81,98,81,99⟩) .anil)) 0 ⟨81,94,81,100⟩) 0 ⟨81,35,81,101⟩ ⟨81,12,81,101⟩) (.cons (.for_ (.nm 7 "_law_one" ⟨82,16,82,24⟩) .val (.var 5 "_law_pairs" ⟨82,28,82,38⟩) (.cons (.for_ (.nm 8 "_law_other" ⟨83,20,83,30⟩) .val (.var 5 "_law_pairs" ⟨83,34,83,44⟩) (.cons (.set 9 "_law_apart_by" ⟨84,20,84,33⟩ (.call "_law_plus" (.acons (.var 7 "_law_one" ⟨84,46,84,54⟩) (.acons (.tup (.acons (.bin .Sub (.int (0) 0 ⟨84,57,84,58⟩) (.ix (.var 8 "_law_other" ⟨84,61,84,71⟩) (.int (0) 0 ⟨84,72,84,73⟩) ⟨84,61,84,74⟩) ⟨84,57,84,74⟩) (.acons (.ix (.var 8 "_law_other" ⟨84,76,84,86⟩) (.int (1) 0 ⟨84,87,84,88⟩) ⟨84,76,84,89⟩) .anil)) 0 ⟨84,56,84,90⟩) .anil)) ⟨84,36,84,45⟩ ⟨84,36,84,91⟩) ⟨84,20,84,91⟩) (.cons (.set 6 "_law_due" ⟨85,20,85,28⟩ (.ite (.call "_law_less" (.acons (.var 6 "_law_due" ⟨85,58,85,66⟩) (.acons (.var 9 "_law_apart_by" ⟨85,68,85,81⟩) .anil)) ⟨85,48,85,57⟩ ⟨85,48,85,82⟩) (.var 9 "_law_apart_by" ⟨85,31,85,44⟩) (.var 6 "_law_due" ⟨85,88,85,96⟩) ⟨85,31,85,96⟩) ⟨85,20,85,96⟩) .nil)) ⟨83,16,85,96⟩) .nil) ⟨82,12,85,96⟩) (.cons (.set 10 "_law_given" ⟨86,12,86,22⟩ (.fb .list (.acons (.var 4 "_law_numbers" ⟨86,30,86,42⟩) .anil) ⟨86,25,86,29⟩ ⟨86,25,86,43⟩) ⟨86,12,86,43⟩) (.cons (.iff (.bop .Or (.acons (.cmp .NotEq (.bi .repr (.acons (.call "spread" (.acons (.var 10 "_law_given" ⟨87,27,87,37⟩) .anil) ⟨87,20,87,26⟩ ⟨87,20,87,38⟩) .anil) ⟨87,15,87,19⟩ ⟨87,15,87,39⟩) (.bi .repr (.acons (.var 6 "_law_due" ⟨87,48,87,56⟩) .anil) ⟨87,43,87,47⟩ ⟨87,43,87,57⟩) ⟨87,15,87,57⟩) (.acons (.cmp .NotEq (.call "spread" (.acons (.bi .tuple (.acons (.call "_law_mixed" (.acons (.var 2 "_law_box_here" ⟨87,85,87,98⟩) (.acons (.var 4 "_law_numbers" ⟨87,100,87,112⟩) .anil)) ⟨87,74,87,84⟩ ⟨87,74,87,113⟩) .anil) ⟨87,68,87,73⟩ ⟨87,68,87,114⟩) .anil) ⟨87,61,87,67⟩ ⟨87,61,87,115⟩) (.var 6 "_law_due" ⟨87,119,87,127⟩) ⟨87,61,87,127⟩) (.acons (.cmp .NotEq (.var 10 "_law_given" ⟨87,131,87,141⟩) (.var 4 "_law_numbers" ⟨87,145,87,157⟩) ⟨87,131,87,157⟩) .anil))) ⟨87,15,87,157⟩) (.cons (.ret (.bl false 0 ⟨88,23,88,28⟩) ⟨88,16,88,28⟩) .nil) .nil ⟨87,12,88,28⟩) (.cons (.set 11 "_law_more" ⟨89,12,89,21⟩ (.bin .Sub (.call "_law_take" (.acons (.var 2 "_law_box_here" ⟨89,34,89,47⟩) (.acons (.int (99) 0 ⟨89,49,89,51⟩) .anil)) ⟨89,24,89,33⟩ ⟨89,24,89,52⟩) (.int (49) 0 ⟨89,55,89,57⟩) ⟨89,24,89,57⟩) ⟨89,12,89,57⟩) (.cons (.iff (.bop .Or (.acons (.cmp .NotEq (.call "spread" (.acons (.lc [("_law_pair_here", 14)] (.call "_law_plus" (.acons (.var 14 "_law_pair_here" ⟨90,33,90,47⟩) (.acons (.tup (.acons (.var 11 "_law_more" ⟨90,50,90,59⟩) (.acons (.int (1) 0 ⟨90,61,90,62⟩) .anil)) 0 ⟨90,49,90,63⟩) .anil)) ⟨90,23,90,32⟩ ⟨90,23,90,64⟩) (.nm 14 "_law_pair_here" ⟨90,69,90,83⟩) .val (.var 5 "_law_pairs" ⟨90,87,90,97⟩) .anil {kind := .function, names := [(".0", .local), ("_law_pair_here", .local), ("_law_plus", .globalImplicit), ("_law_more", .free)], isGenerator := false, isCoroutine := false, more := []} ⟨90,22,90,98⟩) .anil) ⟨90,15,90,21⟩ ⟨90,15,90,99⟩) (.var 6 "_law_due" ⟨90,103,90,111⟩) ⟨90,15,90,111⟩) (.acons (.cmp .NotEq (.call "spread" (.acons (.rep (.acons (.ix (.var 5 "_law_pairs" ⟨90,123,90,133⟩) (.int (0) 0 ⟨90,134,90,135⟩) ⟨90,123,90,136⟩) .anil) (.int (3) 0 ⟨90,140,90,141⟩) ⟨90,122,90,137⟩ ⟨90,122,90,141⟩) .anil) ⟨90,115,90,121⟩ ⟨90,115,90,142⟩) (.tup (.acons (.int (0) 0 ⟨90,147,90,148⟩) (.acons (.int (1) 0 ⟨90,150,90,151⟩) .anil)) 0 ⟨90,146,90,152⟩) ⟨90,115,90,152⟩) .anil)) ⟨90,15,90,152⟩) (.cons (.ret (.bl false 0 ⟨91,23,91,28⟩) ⟨91,16,91,28⟩) .nil) .nil ⟨90,12,91,28⟩) .nil))))))) ⟨79,8,91,28⟩) .nil)) ⟨77,4,91,28⟩) (.cons (.ret (.bop .And (.acons (.cmp .Eq (.call "spread" (.acons (.lst (.acons (.int (7) 0 ⟨92,19,92,20⟩) .anil) ⟨92,18,92,21⟩) .anil) ⟨92,11,92,17⟩ ⟨92,11,92,22⟩) (.tup (.acons (.int (0) 0 ⟨92,27,92,28⟩) (.acons (.int (1) 0 ⟨92,30,92,31⟩) .anil)) 0 ⟨92,26,92,32⟩) ⟨92,11,92,32⟩) (.acons (.cmp .Eq (.call "spread" (.acons (.lst (.acons (.int (3) 0 ⟨92,45,92,46⟩) (.acons (.tup (.acons (.int (1) 0 ⟨92,49,92,50⟩) (.acons (.int (2) 0 ⟨92,52,92,53⟩) .anil)) 0 ⟨92,48,92,54⟩) .anil)) ⟨92,44,92,55⟩) .anil) ⟨92,37,92,43⟩ ⟨92,37,92,56⟩) (.tup (.acons (.int (5) 0 ⟨92,61,92,62⟩) (.acons (.int (2) 0 ⟨92,64,92,65⟩) .anil)) 0 ⟨92,60,92,66⟩) ⟨92,37,92,66⟩) (.acons (.cmp .Eq (.call "spread" (.acons (.lst (.acons (.tup (.acons (.int (2) 0 ⟨92,81,92,82⟩) (.acons (.int (4) 0 ⟨92,84,92,85⟩) .anil)) 0 ⟨92,80,92,86⟩) (.acons (.tup (.acons (.neg (.int (3) 0 ⟨92,90,92,91⟩) ⟨92,89,92,91⟩) (.acons (.int (6) 0 ⟨92,93,92,94⟩) .anil)) 0 ⟨92,88,92,95⟩) .anil)) ⟨92,79,92,96⟩) .anil) ⟨92,72,92,78⟩ ⟨92,72,92,97⟩) (.tup (.acons (.int (1) 0 ⟨92,102,92,103⟩) (.acons (.int (1) 0 ⟨92,105,92,106⟩) .anil)) 0 ⟨92,101,92,107⟩) ⟨92,72,92,107⟩) .anil))) ⟨92,11,92,108⟩) ⟨92,4,92,108⟩) .nil))
def F_law : Fn := ⟨["_law_script"], ["_law_script", "_law_k", "_law_box_here", "_law_turn", "_law_numbers", "_law_pairs", "_law_due", "_law_one", "_law_other", "_law_apart_by", "_law_given", "_law_more", "_law_at", "_law_number", "_law_pair_here"], false, b_law⟩
theorem e_law : defBody (topS 20) = F_law.body.uns := by kernel_rfl
theorem w_law : F_law.wf fsB (topS 20) = true := by decide +kernel
def tbl : List (Str × Fn) := [("greatest_part", F_greatest_part), ("ratio", F_ratio), ("ratio_of", F_ratio_of), ("minus", F_minus), ("less", F_less), ("greatest", F_greatest), ("least", F_least), ("spread", F_spread), ("_law_box", F_law_box), ("_law_take", F_law_take), ("_law_pick", F_law_pick), ("_law_mixed", F_law_mixed), ("_law_ratio", F_law_ratio), ("_law_plus", F_law_plus), ("_law_value", F_law_value), ("_law_pair", F_law_pair), ("_law_less", F_law_less), ("law", F_law)]
def T (f : Str) : Option Fn := tbl.lookup f
theorem T_greatest_part : T "greatest_part" = some F_greatest_part := by kernel_rfl
theorem T_ratio : T "ratio" = some F_ratio := by kernel_rfl
theorem T_ratio_of : T "ratio_of" = some F_ratio_of := by kernel_rfl
theorem T_minus : T "minus" = some F_minus := by kernel_rfl
theorem T_less : T "less" = some F_less := by kernel_rfl
theorem T_greatest : T "greatest" = some F_greatest := by kernel_rfl
theorem T_least : T "least" = some F_least := by kernel_rfl
theorem T_spread : T "spread" = some F_spread := by kernel_rfl
theorem T_law_box : T "_law_box" = some F_law_box := by kernel_rfl
theorem T_law_take : T "_law_take" = some F_law_take := by kernel_rfl
theorem T_law_pick : T "_law_pick" = some F_law_pick := by kernel_rfl
theorem T_law_mixed : T "_law_mixed" = some F_law_mixed := by kernel_rfl
theorem T_law_ratio : T "_law_ratio" = some F_law_ratio := by kernel_rfl
theorem T_law_plus : T "_law_plus" = some F_law_plus := by kernel_rfl
theorem T_law_value : T "_law_value" = some F_law_value := by kernel_rfl
theorem T_law_pair : T "_law_pair" = some F_law_pair := by kernel_rfl
theorem T_law_less : T "_law_less" = some F_law_less := by kernel_rfl
theorem T_law : T "law" = some F_law := by kernel_rfl
theorem c_greatest_part (k : Nat) (ws : List W) (S : Sto) : callI T gc (k + 1) "greatest_part" ws S = F_greatest_part.run (callI T gc k) gc ws S := by simp only [callI, T_greatest_part]
theorem c_ratio (k : Nat) (ws : List W) (S : Sto) : callI T gc (k + 1) "ratio" ws S = F_ratio.run (callI T gc k) gc ws S := by simp only [callI, T_ratio]
theorem c_ratio_of (k : Nat) (ws : List W) (S : Sto) : callI T gc (k + 1) "ratio_of" ws S = F_ratio_of.run (callI T gc k) gc ws S := by simp only [callI, T_ratio_of]
theorem c_minus (k : Nat) (ws : List W) (S : Sto) : callI T gc (k + 1) "minus" ws S = F_minus.run (callI T gc k) gc ws S := by simp only [callI, T_minus]
theorem c_less (k : Nat) (ws : List W) (S : Sto) : callI T gc (k + 1) "less" ws S = F_less.run (callI T gc k) gc ws S := by simp only [callI, T_less]
theorem c_greatest (k : Nat) (ws : List W) (S : Sto) : callI T gc (k + 1) "greatest" ws S = F_greatest.run (callI T gc k) gc ws S := by simp only [callI, T_greatest]
theorem c_least (k : Nat) (ws : List W) (S : Sto) : callI T gc (k + 1) "least" ws S = F_least.run (callI T gc k) gc ws S := by simp only [callI, T_least]
theorem c_spread (k : Nat) (ws : List W) (S : Sto) : callI T gc (k + 1) "spread" ws S = F_spread.run (callI T gc k) gc ws S := by simp only [callI, T_spread]
theorem c_law_box (k : Nat) (ws : List W) (S : Sto) : callI T gc (k + 1) "_law_box" ws S = F_law_box.run (callI T gc k) gc ws S := by simp only [callI, T_law_box]
theorem c_law_take (k : Nat) (ws : List W) (S : Sto) : callI T gc (k + 1) "_law_take" ws S = F_law_take.run (callI T gc k) gc ws S := by simp only [callI, T_law_take]
theorem c_law_pick (k : Nat) (ws : List W) (S : Sto) : callI T gc (k + 1) "_law_pick" ws S = F_law_pick.run (callI T gc k) gc ws S := by simp only [callI, T_law_pick]
theorem c_law_mixed (k : Nat) (ws : List W) (S : Sto) : callI T gc (k + 1) "_law_mixed" ws S = F_law_mixed.run (callI T gc k) gc ws S := by simp only [callI, T_law_mixed]
theorem c_law_ratio (k : Nat) (ws : List W) (S : Sto) : callI T gc (k + 1) "_law_ratio" ws S = F_law_ratio.run (callI T gc k) gc ws S := by simp only [callI, T_law_ratio]
theorem c_law_plus (k : Nat) (ws : List W) (S : Sto) : callI T gc (k + 1) "_law_plus" ws S = F_law_plus.run (callI T gc k) gc ws S := by simp only [callI, T_law_plus]
theorem c_law_value (k : Nat) (ws : List W) (S : Sto) : callI T gc (k + 1) "_law_value" ws S = F_law_value.run (callI T gc k) gc ws S := by simp only [callI, T_law_value]
theorem c_law_pair (k : Nat) (ws : List W) (S : Sto) : callI T gc (k + 1) "_law_pair" ws S = F_law_pair.run (callI T gc k) gc ws S := by simp only [callI, T_law_pair]
theorem c_law_less (k : Nat) (ws : List W) (S : Sto) : callI T gc (k + 1) "_law_less" ws S = F_law_less.run (callI T gc k) gc ws S := by simp only [callI, T_law_less]
theorem c_law (k : Nat) (ws : List W) (S : Sto) : callI T gc (k + 1) "law" ws S = F_law.run (callI T gc k) gc ws S := by simp only [callI, T_law]
theorem tab_mk {K : PySem.W.Frag} {h : Heap} {mg : Str → Option Value} (X : K.In h) (G : h.Ns mainGlobals mg)
    (h_greatest_part : At K "greatest_part" (topS 1))
    (h_ratio : At K "ratio" (topS 2))
    (h_ratio_of : At K "ratio_of" (topS 3))
    (h_minus : At K "minus" (topS 4))
    (h_less : At K "less" (topS 5))
    (h_greatest : At K "greatest" (topS 6))
    (h_least : At K "least" (topS 7))
    (h_spread : At K "spread" (topS 9))
    (h_law_box : At K "_law_box" (topS 11))
    (h_law_take : At K "_law_take" (topS 12))
    (h_law_pick : At K "_law_pick" (topS 13))
    (h_law_mixed : At K "_law_mixed" (topS 14))
    (h_law_ratio : At K "_law_ratio" (topS 15))
    (h_law_plus : At K "_law_plus" (topS 16))
    (h_law_value : At K "_law_value" (topS 17))
    (h_law_pair : At K "_law_pair" (topS 18))
    (h_law_less : At K "_law_less" (topS 19))
    (h_law : At K "law" (topS 20))
    (hb : ∀ x ∈ bltNames, PySem.W.nsIn K mainGlobals x = some none) : Tab K mg T fsB where
  fn := fun f F hT => by
    have hm : (f, F) ∈ tbl := TM.mem_of_lookup hT
    simp only [tbl, List.mem_cons, Prod.mk.injEq, List.not_mem_nil, or_false] at hm
    rcases hm with ⟨rfl, rfl⟩ | ⟨rfl, rfl⟩ | ⟨rfl, rfl⟩ | ⟨rfl, rfl⟩ | ⟨rfl, rfl⟩ | ⟨rfl, rfl⟩ | ⟨rfl, rfl⟩ | ⟨rfl, rfl⟩ | ⟨rfl, rfl⟩ | ⟨rfl, rfl⟩ | ⟨rfl, rfl⟩ | ⟨rfl, rfl⟩ | ⟨rfl, rfl⟩ | ⟨rfl, rfl⟩ | ⟨rfl, rfl⟩ | ⟨rfl, rfl⟩ | ⟨rfl, rfl⟩ | ⟨rfl, rfl⟩
    · exact h_greatest_part.tab X G w_greatest_part e_greatest_part fun _ _ _ _ _ _ us hl => match us, hl with | [_, _], _ => rfl
    · exact h_ratio.tab X G w_ratio e_ratio fun _ _ _ _ _ _ us hl => match us, hl with | [_, _], _ => rfl
    · exact h_ratio_of.tab X G w_ratio_of e_ratio_of fun _ _ _ _ _ _ us hl => match us, hl with | [_], _ => rfl
    · exact h_minus.tab X G w_minus e_minus fun _ _ _ _ _ _ us hl => match us, hl with | [_, _], _ => rfl
    · exact h_less.tab X G w_less e_less fun _ _ _ _ _ _ us hl => match us, hl with | [_, _], _ => rfl
    · exact h_greatest.tab X G w_greatest e_greatest fun _ _ _ _ _ _ us hl => match us, hl with | [_], _ => rfl
    · exact h_least.tab X G w_least e_least fun _ _ _ _ _ _ us hl => match us, hl with | [_], _ => rfl
    · exact h_spread.tab X G w_spread e_spread fun _ _ _ _ _ _ us hl => match us, hl with | [_], _ => rfl
    · exact h_law_box.tab X G w_law_box e_law_box fun _ _ _ _ _ _ us hl => match us, hl with | [_, _, _], _ => rfl
    · exact h_law_take.tab X G w_law_take e_law_take fun _ _ _ _ _ _ us hl => match us, hl with | [_, _], _ => rfl
    · exact h_law_pick.tab X G w_law_pick e_law_pick fun _ _ _ _ _ _ us hl => match us, hl with | [_, _], _ => rfl
    · exact h_law_mixed.tab X G w_law_mixed e_law_mixed fun _ _ _ _ _ _ us hl => match us, hl with | [_, _], _ => rfl
    · exact h_law_ratio.tab X G w_law_ratio e_law_ratio fun _ _ _ _ _ _ us hl => match us, hl with | [_, _], _ => rfl
    · exact h_law_plus.tab X G w_law_plus e_law_plus fun _ _ _ _ _ _ us hl => match us, hl with | [_, _], _ => rfl
    · exact h_law_value.tab X G w_law_value e_law_value fun _ _ _ _ _ _ us hl => match us, hl with | [_], _ => rfl
    · exact h_law_pair.tab X G w_law_pair e_law_pair fun _ _ _ _ _ _ us hl => match us, hl with | [_], _ => rfl
    · exact h_law_less.tab X G w_law_less e_law_less fun _ _ _ _ _ _ us hl => match us, hl with | [_, _], _ => rfl
    · exact h_law.tab X G w_law e_law fun _ _ _ _ _ _ us hl => match us, hl with | [_], _ => rfl
  fs := fun f hf => by
    have : ∀ g ∈ fsN, (T g).isSome = true := by decide +kernel
    exact this f (by simpa [fsB] using hf)
  blt := fun x hx => PySem.W.mg_none_of X G (hb x hx)
end K35

local macro_rules | `(tactic| walk_at "ev") => `(tactic| try simp only [TM.thn_nx, TM.thn_rt, TM.thn_bk, TM.thn_ct, TM.thn_ite, TM.ifS_ok, TM.ifE_ok, TM.toF_ok, TM.bnd_ok', TM.bnd_bad', TM.asB_ok, TM.getV_0, TM.getV_s, TM.x_var, TM.x_int, TM.x_str, TM.x_bl, TM.x_non, TM.x_bin, TM.x_neg, TM.x_not, TM.x_cmp, TM.x_isN, TM.x_chn, TM.x_and1, TM.x_or1, TM.x_and, TM.x_or, TM.x_ite, TM.x_call, TM.x_bi, TM.x_fb, TM.x_isi, TM.x_ix, TM.x_tup, TM.x_lst, TM.x_rep, TM.x_mm, TM.x_anil, TM.x_acons, TM.x_ts0, TM.x_ts1, TM.x_it0, TM.x_it1, TM.x_it2, TM.x_it3, TM.x_it4, TM.f_fb, TM.f_lst, TM.f_rep, TM.m_f, TM.m_t, TM.pushL_ok, TM.frzL_ok, TM.s_nil, TM.s_cons, TM.s_set, TM.s_setm, TM.s_setg, TM.s_par, TM.s_aug, TM.s_sub, TM.s_expr, TM.s_ret, TM.s_retm, TM.s_retN, TM.s_iff, TM.s_whl, TM.s_for, TM.s_brk, TM.s_cnt, TM.s_pass, TM.forE_ok, TM.rd_d, TM.o_add, TM.o_sub, TM.q_eqI, TM.q_neI, TM.q_eqS, TM.q_neS, TM.q_eqB, TM.q_neB, TM.q_lt, TM.q_le, TM.q_gt, TM.q_ge, TM.i_t0, TM.i_t1, TM.n_int, TM.b_len, TM.b_lenT, TM.b_abs, TM.b_int, TM.b_intB2, TM.b2i_t, TM.b2i_f, TM.b_max, TM.b_min, TM.b_tup, TM.b_tupT, TM.fb_l, TM.fb_t, TM.is_tup_t, TM.is_tup_i, TM.is_int_t, TM.is_int_i, TM.tup2, TM.leave_d, TM.leave_t, TM.fin_rt, TM.fin_nx, TM.y_lc, TM.yf_lc, TM.wO_nil, TM.wO_cons, TM.keepD_d, TM.lb_eq, if_true, if_false, Bool.false_eq_true, eq_self, TM.lst0, TM.lst1, TM.lst2, TM.lst3, TM.lst4, TM.lst5, TM.lst6, TM.tup0', TM.tup1', TM.tup3', TM.tup4', TM.tup5', TM.tup6', TM.mapS_cons, TM.mapS_nil, TM.v_lst, TM.v_tup, TM.gd_sn, TM.ds_sn, TM.i_l0, TM.i_l1, TM.fb_eq, List.cons_append, List.nil_append, List.replicate_zero, List.replicate_succ, List.length_cons, List.length_nil, List.set_cons_zero, List.set_cons_succ, decide_eq_true_eq, List.take_length, Nat.reduceAdd, Nat.reduceSub, Nat.sub_self])

local macro_rules | `(tactic| walk_at "boxtail") => `(tactic| ((iterate 8 (walk_at "ev"; try simp (disch := decide) only [TM.o_mulL, TM.o_mulR, TM.o_modC, TM.o_divC])); rw [TM.o_powC (by decide) (by decide) (by decide)]; simp only [TM.bnd_ok']; simp only [TM.q_ge]; generalize hP : (10 : Int) ^ Int.toNat 18 = P; walk_at "ev"; generalize decide (P ≤ _) = b; cases b <;> (walk_at "ev") <;> exact ⟨_, _, rfl⟩))

namespace K35
open PySem PySem.Spec PyProof.Rows L2 TM
theorem sp_gp (k : Nat) (a b : Int) (S : Sto) : callI T gc (k + 1) "greatest_part" [.d (.int a), .d (.int b)] S = .ok (.d (.int (Int.gcd a b))) S := by
  rw [c_greatest_part, run_eq (by rfl)]
  simp only [F_greatest_part, b_greatest_part]
  walk_at "ev"
  rw [gcd_loop (fun x y => [some (.d (.int x)), some (.d (.int y))]) (fun x y S _ => by walk_at "ev") (fun x y S h => by walk_at "ev"; rw [o_mod (by omega)]; walk_at "ev")]
  walk_at "ev"
  rfl
theorem sp_ratio (k : Nat) (u l : Int) (S : Sto) (h : l ≠ 0) (hl : l.natAbs < 2 ^ 8999) : callI T gc (k + 2) "ratio" [.d (.int u), .d (.int l)] S = .ok (.d (qD (Rat.divInt u l))) S := by
  rw [c_ratio, run_eq (by rfl)]
  simp only [F_ratio, b_ratio]
  walk_at "ev"
  simp only [sp_gp]
  walk_at "ev"
  have hg := gcd_pos (u := u) h
  have hs : ((Int.gcd u l : Nat) : Int).natAbs < 2 ^ 8999 := Nat.lt_of_le_of_lt (by simpa using gcd_le (u := u) h) hl
  split
  · rename_i h1
    have e := rat_neg (u := u) h1
    rw [o_div (by omega) (log_ok (b := 8999) (by rw [Int.natAbs_neg]; exact hs) (by omega))]
    walk_at "ev"
    rw [o_div (by omega) (log_ok (b := 8999) (by rw [Int.natAbs_neg]; exact hs) (by omega))]
    walk_at "ev"
    rw [e.1, e.2]
    rfl
  · have e := rat_pos (u := u) (l := l) (by omega)
    rw [o_div (by omega) (log_ok (b := 8999) hs (by omega))]
    walk_at "ev"
    rw [o_div (by omega) (log_ok (b := 8999) hs (by omega))]
    walk_at "ev"
    rw [e.1, e.2]
    rfl

theorem mulok (a b : Rat) (ha : bd 4000 a) (hb : bd 4000 b) : IntMulOk a.num b.den := mul_ok (a := 4000) (b := 4000) ha.1 (by simpa using hb.2) (by omega)
theorem mulokd (a b : Rat) (ha : bd 4000 a) (hb : bd 4000 b) : IntMulOk (a.den : Int) (b.den : Int) := mul_ok (a := 4000) (b := 4000) (by simpa using ha.2) (by simpa using hb.2) (by omega)
theorem den_lt (a b : Rat) (ha : bd 4000 a) (hb : bd 4000 b) : ((a.den : Int) * (b.den : Int)).natAbs < 2 ^ 8999 :=
  Nat.lt_of_lt_of_le (mul_lt' (m := 4000) (n := 4000) (by simpa using ha.2) (by simpa using hb.2)) (Nat.pow_le_pow_right (by omega) (by omega))
theorem sp_minus (k : Nat) (a b : Rat) (S : Sto) (ha : bd 4000 a) (hb : bd 4000 b) : callI T gc (k + 3) "minus" [.d (qD a), .d (qD b)] S = .ok (.d (qD (a - b))) S := by
  rw [c_minus, run_eq (by rfl)]
  simp only [F_minus, b_minus, qD]
  walk_at "ev"
  simp only [o_mul (mulok a b ha hb), o_mul (mulok b a hb ha), o_mul (mulokd a b ha hb)]
  walk_at "ev"
  rw [sp_ratio k _ _ S (Int.mul_ne_zero (den_ne a) (den_ne b)) (den_lt a b ha hb)]
  walk_at "ev"
  rw [sub_eq]
  rfl
theorem sp_less (k : Nat) (a b : Rat) (S : Sto) (ha : bd 4000 a) (hb : bd 4000 b) : callI T gc (k + 1) "less" [.d (qD a), .d (qD b)] S = .ok (.d (.bl (decide (a < b)))) S := by
  rw [c_less, run_eq (by rfl)]
  simp only [F_less, b_less, qD]
  walk_at "ev"
  simp only [o_mul (mulok a b ha hb), o_mul (mulok b a hb ha)]
  walk_at "ev"
  simp only [Rat.lt_iff]
/-- the greatest and the least -/
def gmx (m : Rat) (xs : List Rat) : Rat := xs.foldl (fun f x => if f < x then x else f) m
def gmn (m : Rat) (xs : List Rat) : Rat := xs.foldl (fun f x => if x < f then x else f) m
theorem fold_pair {α β γ : Type} (f : β → α → β) (g : β → γ → α → γ) : ∀ (xs : List α) (b : β) (c : γ), (xs.foldl (fun (p : β × γ) x => (f p.1 x, g p.1 p.2 x)) (b, c)).1 = xs.foldl f b
  | [], _, _ => rfl
  | x :: xs, b, c => fold_pair f g xs (f b x) (g b c x)
theorem sp_greatest (k : Nat) (q : Rat) (qs : List Rat) (S : Sto) (h : ∀ x ∈ q :: qs, bd 4000 x) : callI T gc (k + 2) "greatest" [.d (.lst ((q :: qs).map qD))] S = .ok (.d (qD (gmx q (q :: qs)))) S := by
  rw [c_greatest, run_eq (by rfl)]
  simp only [F_greatest, b_greatest]
  walk_at "ev"
  rw [i_lst (d := qD q) (show atI ((q :: qs).map qD) 0 = _ from atI_nat (j := 0) rfl)]
  walk_at "ev"
  generalize hb : forB _ _ = bd'
  obtain ⟨e, _⟩ := for_fold (bd := bd') (emb := qD) (fun (p : Rat × Option W) => [some (.d (.lst ((q :: qs).map qD))), some (.d (qD p.1)), p.2]) (fun _ => S) (fun p x => (if p.1 < x then x else p.1, some (.d (qD x)))) (fun p => bd 4000 p.1) (q :: qs) (q, none) (h q (by simp)) (fun p x hx hp => by
      refine ⟨?_, ?_⟩
      · rw [← hb]
        walk_at "ev"
        rw [sp_less k p.1 x S hp (h x hx)]
        walk_at "ev"
        split <;> rfl
      · dsimp only
        split
        · exact h x hx
        · exact hp)
  dsimp only at e
  rw [e]
  walk_at "ev"
  exact congrArg (fun z => R.ok (W.d (qD z)) S) (fold_pair (fun (f : Rat) x => if f < x then x else f) (fun _ (_ : Option W) x => some (W.d (qD x))) (q :: qs) q none)
theorem sp_least (k : Nat) (q : Rat) (qs : List Rat) (S : Sto) (h : ∀ x ∈ q :: qs, bd 4000 x) : callI T gc (k + 2) "least" [.d (.lst ((q :: qs).map qD))] S = .ok (.d (qD (gmn q (q :: qs)))) S := by
  rw [c_least, run_eq (by rfl)]
  simp only [F_least, b_least]
  walk_at "ev"
  rw [i_lst (d := qD q) (show atI ((q :: qs).map qD) 0 = _ from atI_nat (j := 0) rfl)]
  walk_at "ev"
  generalize hb : forB _ _ = bd'
  obtain ⟨e, _⟩ := for_fold (bd := bd') (emb := qD) (fun (p : Rat × Option W) => [some (.d (.lst ((q :: qs).map qD))), some (.d (qD p.1)), p.2]) (fun _ => S) (fun p x => (if x < p.1 then x else p.1, some (.d (qD x)))) (fun p => bd 4000 p.1) (q :: qs) (q, none) (h q (by simp)) (fun p x hx hp => by
      refine ⟨?_, ?_⟩
      · rw [← hb]
        walk_at "ev"
        rw [sp_less k x p.1 S (h x hx) hp]
        walk_at "ev"
        split <;> rfl
      · dsimp only
        split
        · exact h x hx
        · exact hp)
  dsimp only at e
  rw [e]
  walk_at "ev"
  exact congrArg (fun z => R.ok (W.d (qD z)) S) (fold_pair (fun (f : Rat) x => if x < f then x else f) (fun _ (_ : Option W) x => some (W.d (qD x))) (q :: qs) q none)
/-- a value that the law draws: an integer, or a pair -/
inductive Vl where
  | i (n : Int)
  | p (u l : Int)
def Vl.D : Vl → TM.D
  | .i n => .int n
  | .p u l => .tup [.int u, .int l]
def Vl.q : Vl → Rat
  | .i n => n
  | .p u l => Rat.divInt u l
def Vl.ok : Vl → Prop
  | .i n => n.natAbs < 2 ^ 40
  | .p u l => u.natAbs < 2 ^ 40 ∧ 0 < l ∧ l.natAbs < 2 ^ 40
def Vl.ok2 : Vl → Prop
  | .i n => n.natAbs < 2 ^ 20
  | .p u l => u.natAbs < 2 ^ 20 ∧ 0 < l ∧ l.natAbs < 2 ^ 20
theorem Vl.ok2.ok {v : Vl} (h : v.ok2) : v.ok := by
  cases v with
  | i n => exact Nat.lt_of_lt_of_le h (Nat.pow_le_pow_right (by decide) (by decide))
  | p u l => exact ⟨Nat.lt_of_lt_of_le h.1 (Nat.pow_le_pow_right (by decide) (by decide)), h.2.1, Nat.lt_of_lt_of_le h.2.2 (Nat.pow_le_pow_right (by decide) (by decide))⟩
theorem pow_le' {a b : Nat} (h : a ≤ b) : 2 ^ a ≤ 2 ^ b := Nat.pow_le_pow_right (by decide) h
theorem Vl.bd {v : Vl} (h : v.ok) : TM.bd 41 v.q := by
  cases v with
  | i n => exact bd_int (Nat.lt_of_lt_of_le h (pow_le' (by decide))) (by decide)
  | p u l => exact bd_divInt (by have := h.2.1; omega) (Nat.lt_of_lt_of_le h.1 (pow_le' (by decide))) (Nat.lt_of_lt_of_le h.2.2 (pow_le' (by decide)))
theorem Vl.bd2 {v : Vl} (h : v.ok2) : TM.bd 21 v.q := by
  cases v with
  | i n => exact bd_int (Nat.lt_of_lt_of_le h (pow_le' (by decide))) (by decide)
  | p u l => exact bd_divInt (by have := h.2.1; omega) (Nat.lt_of_lt_of_le h.1 (pow_le' (by decide))) (Nat.lt_of_lt_of_le h.2.2 (pow_le' (by decide)))
theorem sp_ratio_of (k : Nat) (v : Vl) (S : Sto) (h : v.ok) : callI T gc (k + 3) "ratio_of" [.d v.D] S = .ok (.d (qD v.q)) S := by
  rw [c_ratio_of, run_eq (by rfl)]
  simp only [F_ratio_of, b_ratio_of]
  cases v with
  | i n =>
    simp only [Vl.D]
    walk_at "ev"
    rfl
  | p u l =>
    simp only [Vl.D]
    walk_at "ev"
    rw [sp_ratio k u l S (by have := h.2.1; omega) (Nat.lt_of_lt_of_le h.2.2 (pow_le' (by decide)))]
    walk_at "ev"
    rfl
theorem gmx_bd {n : Nat} : ∀ (xs : List Rat) (m : Rat), bd n m → (∀ x ∈ xs, bd n x) → bd n (gmx m xs)
  | [], _, h, _ => h
  | x :: xs, m, h, hx => by
    refine gmx_bd xs _ ?_ fun y hy => hx y (by simp [hy])
    dsimp only
    split
    · exact hx x (by simp)
    · exact h
theorem gmn_bd {n : Nat} : ∀ (xs : List Rat) (m : Rat), bd n m → (∀ x ∈ xs, bd n x) → bd n (gmn m xs)
  | [], _, h, _ => h
  | x :: xs, m, h, hx => by
    refine gmn_bd xs _ ?_ fun y hy => hx y (by simp [hy])
    dsimp only
    split
    · exact hx x (by simp)
    · exact h
/-- what the program tells -/
def spr : List Rat → Rat
  | [] => 0
  | q :: qs => gmx q (q :: qs) - gmn q (q :: qs)
theorem sp_spread (k : Nat) (vs : List Vl) (S : Sto) (t : Bool) (h : ∀ x ∈ vs, x.ok) (h0 : 0 < vs.length) (hl : vs.length < 100000) :
    callI T gc (k + 4) "spread" [.d (if t then .tup (vs.map Vl.D) else .lst (vs.map Vl.D))] S = .ok (.d (qD (spr (vs.map Vl.q)))) S := by
  rw [c_spread, run_eq (by rfl)]
  simp only [F_spread, b_spread]
  have hb : ∀ x ∈ vs.map Vl.q, bd 4000 x := fun x hx => by
    obtain ⟨y, hy, rfl⟩ := List.mem_map.mp hx
    exact (Vl.bd (h y hy)).mono (by decide)
  cases t
  all_goals
    walk_at "ev"
    generalize hbd : lcB _ _ _ _ = bd'
    rw [lc_map (bd := bd') (emb := Vl.D) (fun x => some (qD x.q)) S vs [] (fun x hx acc => by
      rw [← hbd]
      walk_at "ev"
      rw [sp_ratio_of k x _ (h x hx)]
      walk_at "ev") (by simp; omega)]
    walk_at "ev"
    have e : vs.filterMap (fun x => some (qD x.q)) = (vs.map Vl.q).map qD := by simp
    rw [e]
    have ne : ∃ q qs', vs.map Vl.q = q :: qs' := by
      cases vs with
      | nil => simp at h0
      | cons v vs => exact ⟨_, _, rfl⟩
    obtain ⟨q, qs', eq⟩ := ne
    rw [eq] at hb ⊢
    rw [sp_greatest (k + 1) q qs' S hb]
    walk_at "ev"
    rw [sp_least (k + 1) q qs' S hb]
    walk_at "ev"
    rw [sp_minus k _ _ S (gmx_bd _ _ (hb q (by simp)) hb) (gmn_bd _ _ (hb q (by simp)) hb)]
    walk_at "ev"
    rfl

/-! the law's draws -/
def bx (w s c : Int) : Ob := .lst [.int w, .int s, .int c]
def Bx (S : Sto) (n : Nat) : Prop := ∃ w s c, S[n]? = some (bx w s c)
theorem Bx.lt {S : Sto} {n : Nat} (h : Bx S n) : n < S.length := by
  obtain ⟨w, s, c, e⟩ := h
  exact (List.getElem?_eq_some_iff.mp e).1
theorem Bx.set {S : Sto} {n : Nat} (h : n < S.length) (w s c : Int) : Bx (S.set n (bx w s c)) n := ⟨w, s, c, r_get h⟩
theorem sp_take (k : Nat) (S : Sto) (n : Nat) (m : Int) (h : Bx S n) (h0 : 0 < m) (h1 : m < 2 ^ 40) : ∃ r w s c, callI T gc (k + 1) "_law_take" [.ref n, .d (.int m)] S = .ok (.d (.int r)) (S.set n (bx w s c)) ∧ 0 ≤ r ∧ r < m := by
  have hl := h.lt
  obtain ⟨w, s, c, e⟩ := h
  have hS := r_self e
  generalize hS' : S = S0 at hl e hS ⊢
  rw [← hS]
  have hl0 : n < S0.length := hl
  simp only [bx]
  have hlen : (S0.set n (.lst [.int w, .int s, .int c])).length = S0.length := by simp
  have tk : ∀ o : Ob, (S0.set n o).take (S0.set n (.lst [.int w, .int s, .int c])).length = S0.set n o := fun o => by
    rw [hlen]
    exact List.take_of_length_le (by simp)
  rw [c_law_take, run_eq (by rfl)]
  simp only [F_law_take, b_law_take]
  walk_at "ev"
  simp only [r_ix0 hl0]
  walk_at "ev"
  by_cases hw : 0 < w
  · rw [if_pos hw]
    iterate 24 (walk_at "ev"; (try first | simp only [r_ix0 hl0, r_ix1 hl0, r_ix2 hl0, r_sub0 hl0, r_sub1 hl0, r_sub2 hl0, o_modC h0, o_divC h0 (show m < 2 ^ 62 by omega)]))
    simp only [tk, r_set]
    exact ⟨_, _, _, _, rfl, Int.emod_nonneg _ (by omega), Int.emod_lt_of_pos _ h0⟩
  · rw [if_neg hw]
    iterate 24 (walk_at "ev"; (try first | simp only [r_ix0 hl0, r_ix1 hl0, r_ix2 hl0, r_sub0 hl0, r_sub1 hl0, r_sub2 hl0, o_modC h0] | simp (disch := decide) only [o_mulL, o_mulR, o_modC, o_divC, o_powC] | rw [if_pos (show m < 2 ^ (40 : Int).toNat by simpa using h1)]))
    simp only [tk, r_set]
    exact ⟨_, _, _, _, rfl, Int.emod_nonneg _ (by omega), Int.emod_lt_of_pos _ h0⟩

theorem sp_box (k : Nat) (S : Sto) (ns : List Int) (j : Nat) : ∃ w s, callI T gc (k + 1) "_law_box" [.d (.lst (ns.map .int)), .d (.int (j : Int)), .d (.int 35)] S = .ok (.ref S.length) (S ++ [bx w s 0]) := by
  rw [c_law_box, run_eq (by rfl)]
  simp only [F_law_box, b_law_box]
  have hlen : (ns.map D.int).length = ns.length := by simp
  walk_at "ev"
  simp only [o_mulL (i := 9001) (by decide), o_mulL (i := 104827) (by decide)]
  walk_at "ev"
  rw [hlen]
  generalize hX : 9001 * (j : Int) + 104827 * 35 + 89 = X
  by_cases h1 : (j : Int) < (ns.length : Int)
  · rw [if_pos h1]
    have e : atI (ns.map D.int) (j : Int) = some (.int (ns[j]'(by omega))) := atI_nat (by simp [show j < ns.length by omega])
    simp only [i_lst e]
    walk_at "boxtail"
  · rw [if_neg h1]
    by_cases h2 : (0 : Int) < (ns.length : Int)
    · rw [if_pos h2]
      have lt : (j : Int) % (ns.length : Int) < ns.length := Int.emod_lt_of_pos _ h2
      have ge : 0 ≤ (j : Int) % (ns.length : Int) := Int.emod_nonneg _ (by omega)
      obtain ⟨i, hi⟩ := Int.eq_ofNat_of_zero_le ge
      have e : atI (ns.map D.int) ((j : Int) % (ns.length : Int)) = some (.int (ns[i]'(by omega))) := by
        rw [hi]
        exact atI_nat (by simp [show i < ns.length by omega])
      simp only [o_modC h2, bnd_ok', i_lst e]
      walk_at "boxtail"
    · rw [if_neg h2]
      walk_at "boxtail"

theorem sp_pick (k : Nat) (S : Sto) (n : Nat) (ds : List D) (h : Bx S n) (h0 : 0 < ds.length) (h1 : ds.length < 1000) : ∃ d w s c, callI T gc (k + 2) "_law_pick" [.ref n, .d (.lst ds)] S = .ok (.d d) (S.set n (bx w s c)) ∧ d ∈ ds := by
  rw [c_law_pick, run_eq (by rfl)]
  simp only [F_law_pick, b_law_pick]
  walk_at "ev"
  obtain ⟨r, w, s, c, e, r0, r1⟩ := sp_take k S n ds.length h (by omega) (by omega)
  rw [e]
  obtain ⟨i, hi⟩ := Int.eq_ofNat_of_zero_le r0
  subst hi
  have ei : atI ds (i : Int) = some (ds[i]'(by omega)) := atI_nat (by simp [show i < ds.length by omega])
  iterate 10 (walk_at "ev"; (try first | simp only [i_lst ei]))
  rw [List.take_of_length_le (by simp)]
  exact ⟨_, _, _, _, rfl, by simp⟩
theorem Bx.after {S : Sto} {n : Nat} (h : Bx S n) (w s c : Int) : Bx (S.set n (bx w s c)) n := Bx.set h.lt w s c
theorem sp_value (k : Nat) (S : Sto) (n : Nat) (h : Bx S n) : ∃ (v : Vl) (w s c : Int), callI T gc (k + 3) "_law_value" [.ref n] S = .ok (.d v.D) (S.set n (bx w s c)) ∧ v.ok2 := by
  rw [c_law_value, run_eq (by rfl)]
  simp only [F_law_value, b_law_value]
  iterate 10 (walk_at "ev"; (try first | simp (disch := decide) only [o_mulL, o_mulR, o_modC, o_divC, o_powC]))
  obtain ⟨r, w, s, c, e, r0, r1⟩ := sp_take (k + 1) S n 40 h (by omega) (by omega)
  rw [e]
  walk_at "ev"
  obtain ⟨d, w2, s2, c2, e2, hd⟩ := sp_pick k (S.set n (bx w s c)) n [.int 0, .int 1, .int (10 ^ Int.toNat 6), .int (0 - 7), .int (r - 20)] (h.after w s c) (by simp) (by simp)
  rw [e2]
  walk_at "ev"
  have hu : ∃ u : Int, d = .int u ∧ u.natAbs < 2 ^ 20 := by
    simp only [List.mem_cons, List.not_mem_nil, or_false] at hd
    rcases hd with rfl | rfl | rfl | rfl | rfl
    · exact ⟨_, rfl, by decide⟩
    · exact ⟨_, rfl, by decide⟩
    · exact ⟨_, rfl, by decide⟩
    · exact ⟨_, rfl, by decide⟩
    · exact ⟨_, rfl, by omega⟩
  obtain ⟨u, rfl, hu⟩ := hu
  obtain ⟨r3, w3, s3, c3, e3, p0, p1⟩ := sp_take (k + 1) _ n 2 ((h.after w s c).after w2 s2 c2) (by omega) (by omega)
  rw [e3]
  walk_at "ev"
  by_cases hz : r3 = 0
  · rw [if_pos hz]
    iterate 10 (walk_at "ev"; (try first | simp only [r_set]))
    rw [List.take_of_length_le (by simp)]
    exact ⟨.i u, _, _, _, rfl, hu⟩
  · rw [if_neg hz]
    walk_at "ev"
    obtain ⟨r4, w4, s4, c4, e4, q0, q1⟩ := sp_take (k + 1) _ n 12 (((h.after w s c).after w2 s2 c2).after w3 s3 c3) (by omega) (by omega)
    rw [e4]
    iterate 10 (walk_at "ev"; (try first | simp only [r_set]))
    rw [List.take_of_length_le (by simp)]
    exact ⟨.p u (1 + r4), _, _, _, rfl, hu, by omega, by omega⟩

theorem sp_lratio (k : Nat) (u l : Int) (S : Sto) (h : 0 < l) (hl : l.natAbs < 2 ^ 8999) : callI T gc (k + 1) "_law_ratio" [.d (.int u), .d (.int l)] S = .ok (.d (qD (Rat.divInt u l))) S := by
  rw [c_law_ratio, run_eq (by rfl)]
  simp only [F_law_ratio, b_law_ratio]
  walk_at "ev"
  obtain ⟨m, rfl⟩ := Int.eq_ofNat_of_zero_le (Int.le_of_lt h)
  rw [gcd_loop (fun x y => [some (.d (.int u)), some (.d (.int (m : Int))), some (.d (.int x)), some (.d (.int y))]) (fun x y S hy => by
      walk_at "ev"
      congr 1
      by_cases hz : y = 0
      · subst hz; simp
      · simp [hz]; omega) (fun x y S hy => by walk_at "ev"; rw [o_mod (by omega)]; walk_at "ev")]
  walk_at "ev"
  have hg := gcd_pos (u := u) (l := (m : Int)) (by omega)
  have eg : Nat.gcd u.natAbs m = Int.gcd u (m : Int) := rfl
  rw [eg]
  have hs : ((Int.gcd u (m : Int) : Nat) : Int).natAbs < 2 ^ 8999 := Nat.lt_of_le_of_lt (by simpa using gcd_le (u := u) (l := (m : Int)) (by omega)) hl
  have e := rat_pos (u := u) (l := (m : Int)) (by omega)
  rw [o_div (by omega) (log_ok (b := 8999) hs (by omega))]
  walk_at "ev"
  rw [o_div (by omega) (log_ok (b := 8999) hs (by omega))]
  walk_at "ev"
  rw [e.1, e.2]
  rfl
theorem sp_lplus (k : Nat) (a b : Rat) (S : Sto) (ha : bd 4000 a) (hb : bd 4000 b) : callI T gc (k + 2) "_law_plus" [.d (qD a), .d (qD b)] S = .ok (.d (qD (a + b))) S := by
  rw [c_law_plus, run_eq (by rfl)]
  simp only [F_law_plus, b_law_plus, qD]
  walk_at "ev"
  simp only [o_mul (mulok a b ha hb), o_mul (mulok b a hb ha), o_mul (mulokd a b ha hb)]
  walk_at "ev"
  rw [sp_lratio k _ _ S (Int.mul_pos (by have := a.den_pos; omega) (by have := b.den_pos; omega)) (den_lt a b ha hb)]
  walk_at "ev"
  rw [add_eq]
  rfl
theorem sp_lless (k : Nat) (a b : Rat) (S : Sto) (ha : bd 4000 a) (hb : bd 4000 b) : callI T gc (k + 1) "_law_less" [.d (qD a), .d (qD b)] S = .ok (.d (.bl (decide (a < b)))) S := by
  rw [c_law_less, run_eq (by rfl)]
  simp only [F_law_less, b_law_less, qD]
  walk_at "ev"
  simp only [o_mul (mulok a b ha hb), o_mul (mulok b a hb ha)]
  walk_at "ev"
  simp only [Rat.lt_iff]
theorem sp_lpair (k : Nat) (v : Vl) (S : Sto) (h : v.ok) : callI T gc (k + 2) "_law_pair" [.d v.D] S = .ok (.d (qD v.q)) S := by
  rw [c_law_pair, run_eq (by rfl)]
  simp only [F_law_pair, b_law_pair]
  cases v with
  | i n =>
    simp only [Vl.D]
    walk_at "ev"
    rw [sp_lratio k n 1 S (by decide) (Nat.one_lt_two_pow (by decide))]
    walk_at "ev"
    rw [show Rat.divInt n 1 = (n : Rat) from Rat.num_divInt_den (n : Rat)]
    rfl
  | p u l =>
    simp only [Vl.D]
    walk_at "ev"
    rw [sp_lratio k u l S h.2.1 (Nat.lt_of_lt_of_le h.2.2 (pow_le' (by decide)))]
    walk_at "ev"
    rfl
/-! two lists at the store's end -/
theorem g2a {S : Sto} {a b : Ob} : (S ++ [a, b])[S.length]? = some a := by simp
theorem g2b {S : Sto} {a b : Ob} : (S ++ [a, b])[S.length + 1]? = some b := by simp
theorem s2a {S : Sto} {a b x : Ob} : (S ++ [a, b]).set S.length x = S ++ [x, b] := by simp
theorem s2b {S : Sto} {a b x : Ob} : (S ++ [a, b]).set (S.length + 1) x = S ++ [a, x] := by
  rw [List.set_append_right _ _ (by omega)]
  simp
theorem set_app {S : Sto} {n : Nat} {o : Ob} {l : Sto} (h : n < S.length) : (S ++ l).set n o = S.set n o ++ l := List.set_append_left _ _ h
theorem Bx.app {S : Sto} {n : Nat} (h : Bx S n) (l : Sto) : Bx (S ++ l) n := by
  have := h.lt
  obtain ⟨w, s, c, e⟩ := h
  exact ⟨w, s, c, by rw [List.getElem?_append_left this]; exact e⟩
theorem perm_erase : ∀ (l : List D) (i : Nat) (h : i < l.length), l.Perm (l[i] :: l.eraseIdx i)
  | x :: l, 0, _ => by simp
  | x :: l, i + 1, h => by
    have := perm_erase l i (by simpa using h)
    simp only [List.getElem_cons_succ, List.eraseIdx_cons_succ]
    exact (this.cons x).trans (List.Perm.swap _ _ _)
theorem mix_loop (k : Nat) (n : Nat) (items : D) (bd' : W → Sg → Sto → Fl) (m : Nat)
    (hb : ∀ (S : Sto) (l f : List D) (t : Option W) (d : D), S.length = m → Bx S n → 0 < l.length → l.length < 1000 → f.length < 1000 → ∃ (x : D) (l' : List D) (w s c : Int), bd' (.d d) [some (.ref n), some (.d items), some (.ref m), some (.ref (m + 1)), t] (S ++ [.lst l, .lst f]) = .nx [some (.ref n), some (.d items), some (.ref m), some (.ref (m + 1)), some (.d d)] (S.set n (bx w s c) ++ [.lst l', .lst (f ++ [x])]) ∧ l.Perm (x :: l') ∧ l'.length + 1 = l.length) :
    ∀ (ds : List D) (S : Sto) (l f : List D) (t : Option W), S.length = m → Bx S n → ds.length = l.length → l.length + f.length < 1000 → ∃ (f' : List D) (t' : Option W) (w s c : Int), forX (fun _ => True) bd' ds [some (.ref n), some (.d items), some (.ref m), some (.ref (m + 1)), t] (S ++ [.lst l, .lst f]) = .nx [some (.ref n), some (.d items), some (.ref m), some (.ref (m + 1)), t'] (S.set n (bx w s c) ++ [.lst [], .lst f']) ∧ f'.Perm (f ++ l) := by
  intro ds
  induction ds with
  | nil =>
    intro S l f t hm hB hl _
    have : l = [] := List.eq_nil_of_length_eq_zero (by simpa using hl.symm)
    subst this
    obtain ⟨w, s, c, e⟩ := hB
    refine ⟨f, t, w, s, c, ?_, by simp⟩
    rw [forX_nil, r_self e]
  | cons d ds ih =>
    intro S l f t hm hB hl hs
    rw [List.length_cons] at hl
    obtain ⟨x, l', w, s, c, e, p, pl⟩ := hb S l f t d hm hB (by omega) (by omega) (by omega)
    obtain ⟨f', t', w', s', c', e', p'⟩ := ih (S.set n (bx w s c)) l' (f ++ [x]) (some (.d d)) (by simpa using hm) (hB.after w s c) (by omega) (by simp; omega)
    refine ⟨f', t', w', s', c', ?_, ?_⟩
    · rw [forX_cons, e]
      simp only
      rw [e', r_set]
    · refine p'.trans ?_
      rw [List.append_assoc]
      exact (List.Perm.append_left f (by simpa using p.symm))
theorem sp_mixed (k : Nat) (S : Sto) (n : Nat) (ds : List D) (h : Bx S n) (hl : ds.length < 900) : ∃ (ds' : List D) (w s c : Int), callI T gc (k + 2) "_law_mixed" [.ref n, .d (.lst ds)] S = .ok (.d (.lst ds')) (S.set n (bx w s c)) ∧ ds'.Perm ds := by
  rw [c_law_mixed, run_eq (by rfl)]
  simp only [F_law_mixed, b_law_mixed]
  walk_at "ev"
  rw [show S ++ [Ob.lst ds] ++ [Ob.lst []] = S ++ [Ob.lst ds, Ob.lst []] by simp, show (S ++ [Ob.lst ds]).length = S.length + 1 by simp]
  have el : biE .len [.ref S.length] (S ++ [Ob.lst ds, Ob.lst []]) = .ok (.d (.int ds.length)) (S ++ [Ob.lst ds, Ob.lst []]) := by
    simp only [biE, rd, g2a]
  rw [el]
  walk_at "ev"
  rw [v_rng (by omega)]
  walk_at "ev"
  generalize hbd : forB _ _ = bd'
  obtain ⟨f', t', w, s, c, e, p⟩ := mix_loop k n (.lst ds) bd' S.length (fun S' l f t d hm hB h0 h1 h2 => by
    rw [← hbd, ← hm]
    walk_at "ev"
    have i1 : isL (S' ++ [Ob.lst l, Ob.lst f]) (.ref (S'.length + 1)) = true := by simp only [isL, g2b]
    have i2 : isL (S' ++ [Ob.lst l, Ob.lst f]) (.ref S'.length) = true := by simp only [isL, g2a]
    have el2 : biE .len [.ref S'.length] (S' ++ [Ob.lst l, Ob.lst f]) = .ok (.d (.int l.length)) (S' ++ [Ob.lst l, Ob.lst f]) := by
      simp only [biE, rd, g2a]
    simp only [i1, i2, el2]
    walk_at "ev"
    obtain ⟨r, w, s, c, e, r0, r1⟩ := sp_take k (S' ++ [Ob.lst l, Ob.lst f]) n l.length (hB.app _) (by omega) (by omega)
    rw [e, set_app hB.lt]
    walk_at "ev"
    obtain ⟨i, rfl⟩ := Int.eq_ofNat_of_zero_le r0
    have hi : i < l.length := by omega
    have L : S'.length = (S'.set n (bx w s c)).length := by simp
    have sl : sizeLine = 16777216 := sizeLine_eq
    have ep : mmE .pop (.ref S'.length) [.d (.int (i : Int))] (S'.set n (bx w s c) ++ [Ob.lst l, Ob.lst f]) = .ok (.d l[i]) (S'.set n (bx w s c) ++ [Ob.lst (l.eraseIdx i), Ob.lst f]) := by
      simp only [mmE]
      rw [L, g2a]
      simp only [if_pos (show (0 : Int) ≤ (i : Int) ∧ (i : Int) < 2 ^ 62 by omega), Int.toNat_natCast, List.getElem?_eq_getElem hi, s2a]
    rw [ep]
    walk_at "ev"
    have ea : mmE .append (.ref (S'.length + 1)) [.d l[i]] (S'.set n (bx w s c) ++ [Ob.lst (l.eraseIdx i), Ob.lst f]) = .ok (.d .non) (S'.set n (bx w s c) ++ [Ob.lst (l.eraseIdx i), Ob.lst (f ++ [l[i]])]) := by
      simp only [mmE]
      rw [L, g2b]
      simp only [if_pos (show f.length < sizeLine by omega), s2b]
    rw [ea]
    walk_at "ev"
    refine ⟨l[i], l.eraseIdx i, w, s, c, rfl, ?_, ?_⟩
    · exact perm_erase l i hi
    · rw [List.length_eraseIdx_of_lt hi]
      omega) (rngL 0 ds.length) S ds [] none rfl h (by rw [rngL_len]) (by simp; omega)
  simp only [Int.toNat_natCast]
  rw [e]
  walk_at "ev"
  have L : S.length = (S.set n (bx w s c)).length := by simp
  refine ⟨f', w, s, c, ?_, by simpa using p⟩
  have lv : leave S.length false (.ref (S.length + 1)) (S.set n (bx w s c) ++ [Ob.lst [], Ob.lst f']) = .ok (.d (.lst f')) (S.set n (bx w s c)) := by
    unfold leave
    rw [if_neg (by decide)]
    simp only [if_neg (show ¬ S.length + 1 < S.length by omega)]
    rw [L, g2b]
    simp
  exact lv

/-! the mathematics -/
theorem gmx_ge : ∀ (xs : List Rat) (m : Rat), m ≤ gmx m xs ∧ ∀ x ∈ xs, x ≤ gmx m xs
  | [], m => ⟨Rat.le_refl, by simp⟩
  | x :: xs, m => by
    obtain ⟨h1, h2⟩ := gmx_ge xs (if m < x then x else m)
    have e : gmx m (x :: xs) = gmx (if m < x then x else m) xs := rfl
    rw [e]
    have h3 : m ≤ (if m < x then x else m) ∧ x ≤ (if m < x then x else m) := by split <;> grind
    refine ⟨by grind, fun y hy => ?_⟩
    rcases List.mem_cons.mp hy with rfl | hy
    · grind
    · exact h2 y hy
theorem gmx_mem : ∀ (xs : List Rat) (m : Rat), gmx m xs = m ∨ gmx m xs ∈ xs
  | [], m => .inl rfl
  | x :: xs, m => by
    have e : gmx m (x :: xs) = gmx (if m < x then x else m) xs := rfl
    rw [e]
    rcases gmx_mem xs (if m < x then x else m) with h | h
    · rw [h]
      split
      · exact .inr (by simp)
      · exact .inl rfl
    · exact .inr (by simp [h])
theorem gmn_le : ∀ (xs : List Rat) (m : Rat), gmn m xs ≤ m ∧ ∀ x ∈ xs, gmn m xs ≤ x
  | [], m => ⟨Rat.le_refl, by simp⟩
  | x :: xs, m => by
    obtain ⟨h1, h2⟩ := gmn_le xs (if x < m then x else m)
    have e : gmn m (x :: xs) = gmn (if x < m then x else m) xs := rfl
    rw [e]
    have h3 : (if x < m then x else m) ≤ m ∧ (if x < m then x else m) ≤ x := by split <;> grind
    refine ⟨by grind, fun y hy => ?_⟩
    rcases List.mem_cons.mp hy with rfl | hy
    · grind
    · exact h2 y hy
theorem gmn_mem : ∀ (xs : List Rat) (m : Rat), gmn m xs = m ∨ gmn m xs ∈ xs
  | [], m => .inl rfl
  | x :: xs, m => by
    have e : gmn m (x :: xs) = gmn (if x < m then x else m) xs := rfl
    rw [e]
    rcases gmn_mem xs (if x < m then x else m) with h | h
    · rw [h]
      split
      · exact .inr (by simp)
      · exact .inl rfl
    · exact .inr (by simp [h])
/-- the greatest difference, said -/
def Gd2 (qs : List Rat) (d : Rat) : Prop := (∃ a ∈ qs, ∃ b ∈ qs, d = a - b) ∧ ∀ a ∈ qs, ∀ b ∈ qs, a - b ≤ d
theorem Gd2.uniq {qs qs' : List Rat} {d e : Rat} (h : Gd2 qs d) (h' : Gd2 qs' e) (m : ∀ x, x ∈ qs ↔ x ∈ qs') : d = e := by
  obtain ⟨⟨a, ha, b, hb, rfl⟩, h2⟩ := h
  obtain ⟨⟨a', ha', b', hb', rfl⟩, h2'⟩ := h'
  have h3 := h2 a' ((m _).mpr ha') b' ((m _).mpr hb')
  have h4 := h2' a ((m _).mp ha) b ((m _).mp hb)
  grind
theorem spr_gd {qs : List Rat} (h : qs ≠ []) : Gd2 qs (spr qs) := by
  cases qs with
  | nil => exact (h rfl).elim
  | cons q qs =>
    have hx := gmx_ge (q :: qs) q
    have hn := gmn_le (q :: qs) q
    refine ⟨⟨gmx q (q :: qs), ?_, gmn q (q :: qs), ?_, rfl⟩, fun a ha b hb => ?_⟩
    · rcases gmx_mem (q :: qs) q with e | e
      · rw [e]; simp
      · exact e
    · rcases gmn_mem (q :: qs) q with e | e
      · rw [e]; simp
      · exact e
    · have h1 := hx.2 a ha
      have h2 := hn.2 b hb
      show a - b ≤ gmx q (q :: qs) - gmn q (q :: qs)
      grind
/-- the law's own way -/
def du1 (a : Rat) (d : Rat) (qs : List Rat) : Rat := qs.foldl (fun d b => if d < a + -b then a + -b else d) d
def due (d : Rat) (as qs : List Rat) : Rat := as.foldl (fun d a => du1 a d qs) d
theorem du1_p (a : Rat) : ∀ (qs : List Rat) (d : Rat), (du1 a d qs = d ∨ ∃ b ∈ qs, du1 a d qs = a - b) ∧ d ≤ du1 a d qs ∧ ∀ b ∈ qs, a - b ≤ du1 a d qs
  | [], d => ⟨.inl rfl, Rat.le_refl, by simp⟩
  | b :: qs, d => by
    have e : du1 a d (b :: qs) = du1 a (if d < a + -b then a + -b else d) qs := rfl
    obtain ⟨h1, h2, h3⟩ := du1_p a qs (if d < a + -b then a + -b else d)
    rw [e]
    generalize du1 a (if d < a + -b then a + -b else d) qs = r at *
    refine ⟨?_, ?_, fun c hc => ?_⟩
    · rcases h1 with h1 | ⟨c, hc, h1⟩
      · split at h1
        · exact .inr ⟨b, by simp, by grind⟩
        · exact .inl h1
      · exact .inr ⟨c, by simp [hc], h1⟩
    · split at h2 <;> grind
    · rcases List.mem_cons.mp hc with rfl | hc
      · split at h2 <;> grind
      · exact h3 c hc
theorem due_p (qs : List Rat) : ∀ (as : List Rat) (d : Rat), (due d as qs = d ∨ ∃ a ∈ as, ∃ b ∈ qs, due d as qs = a - b) ∧ d ≤ due d as qs ∧ ∀ a ∈ as, ∀ b ∈ qs, a - b ≤ due d as qs
  | [], d => ⟨.inl rfl, Rat.le_refl, by simp⟩
  | a :: as, d => by
    have e : due d (a :: as) qs = due (du1 a d qs) as qs := rfl
    obtain ⟨h1, h2, h3⟩ := due_p qs as (du1 a d qs)
    obtain ⟨g1, g2, g3⟩ := du1_p a qs d
    rw [e]
    generalize due (du1 a d qs) as qs = r at *
    refine ⟨?_, by grind, fun c hc b hb => ?_⟩
    · rcases h1 with h1 | ⟨c, hc, b, hb, h1⟩
      · rcases g1 with g1 | ⟨b, hb, g1⟩
        · exact .inl (h1.trans g1)
        · exact .inr ⟨a, by simp, b, hb, h1.trans g1⟩
      · exact .inr ⟨c, by simp [hc], b, hb, h1⟩
    · rcases List.mem_cons.mp hc with rfl | hc
      · have := g3 b hb
        grind
      · exact h3 c hc b hb
theorem due_gd {qs : List Rat} (h : qs ≠ []) : Gd2 qs (due 0 qs qs) := by
  obtain ⟨h1, h2, h3⟩ := due_p qs qs 0
  refine ⟨?_, h3⟩
  rcases h1 with h1 | ⟨a, ha, b, hb, h1⟩
  · cases qs with
    | nil => exact (h rfl).elim
    | cons q qs => exact ⟨q, by simp, q, by simp, by rw [h1]; grind⟩
  · exact ⟨a, ha, b, hb, h1⟩
theorem due_spr {qs : List Rat} (h : qs ≠ []) : due 0 qs qs = spr qs := (due_gd h).uniq (spr_gd h) fun _ => Iff.rfl
theorem spr_perm {qs qs' : List Rat} (h : qs ≠ []) (p : qs'.Perm qs) : spr qs' = spr qs :=
  (spr_gd (fun e => h (by rw [e] at p; exact p.symm.eq_nil))).uniq (spr_gd h) fun _ => p.mem_iff
theorem spr_move {qs : List Rat} (h : qs ≠ []) (c : Rat) : spr (qs.map (· + c)) = spr qs := by
  have h1 := spr_gd h
  have h2 : Gd2 (qs.map (· + c)) (spr qs) := by
    obtain ⟨⟨a, ha, b, hb, e⟩, h2⟩ := h1
    refine ⟨⟨a + c, List.mem_map.mpr ⟨a, ha, rfl⟩, b + c, List.mem_map.mpr ⟨b, hb, rfl⟩, by rw [e]; grind⟩, fun x hx y hy => ?_⟩
    obtain ⟨x', hx', rfl⟩ := List.mem_map.mp hx
    obtain ⟨y', hy', rfl⟩ := List.mem_map.mp hy
    have := h2 x' hx' y' hy'
    grind
  exact (spr_gd (by simpa using h)).uniq h2 fun _ => Iff.rfl
theorem spr_same (q : Rat) : spr [q, q, q] = 0 := by
  have := spr_gd (qs := [q, q, q]) (by simp)
  obtain ⟨⟨a, ha, b, hb, e⟩, _⟩ := this
  simp at ha hb
  rw [e, ha, hb]
  grind

def b_turn : C := (.cons (.set 4 "_law_numbers" ⟨80,12,80,24⟩ (.lc [("_law_at", 12)] (.call "_law_value" (.acons (.var 2 "_law_box_here" ⟨80,39,80,52⟩) .anil) ⟨80,28,80,38⟩ ⟨80,28,80,53⟩) (.nm 12 "_law_at" ⟨80,58,80,65⟩) (.rng1 ⟨80,69,80,74⟩ ⟨80,69,80,108⟩) (.acons (.bin .Add (.int (1) 0 ⟨80,75,80,76⟩) (.call "_law_take" (.acons (.var 2 "_law_box_here" ⟨80,89,80,102⟩) (.acons (.int (12) 0 ⟨80,104,80,106⟩) .anil)) ⟨80,79,80,88⟩ ⟨80,79,80,107⟩) ⟨80,75,80,107⟩) .anil) .anil {kind := .function, names := [(".0", .local), ("_law_at", .local), ("_law_value", .globalImplicit), ("_law_box_here", .free)], isGenerator := false, isCoroutine := false, more := []} ⟨80,27,80,109⟩) ⟨80,12,80,109⟩) (.cons (.par 5 "_law_pairs" ⟨81,12,81,22⟩ 6 "_law_due" ⟨81,24,81,32⟩ 0 ⟨81,12,81,32⟩ false (.lc [("_law_number", 13)] (.call "_law_pair" (.acons (.var 13 "_law_number" ⟨81,47,81,58⟩) .anil) ⟨81,37,81,46⟩ ⟨81,37,81,59⟩) (.nm 13 "_law_number" ⟨81,64,81,75⟩) .val (.var 4 "_law_numbers" ⟨81,79,81,91⟩) .anil {kind := .function, names := [(".0", .local), ("_law_number", .local), ("_law_pair", .globalImplicit)], isGenerator := false, isCoroutine := false, more := []} ⟨81,36,81,92⟩) false (.tup (.acons (.int (0) 0 ⟨81,95,81,96⟩) (.acons (.int (1) 0 ⟨81,98,81,99⟩) .anil)) 0 ⟨81,94,81,100⟩) 0 ⟨81,35,81,101⟩ ⟨81,12,81,101⟩) (.cons (.for_ (.nm 7 "_law_one" ⟨82,16,82,24⟩) .val (.var 5 "_law_pairs" ⟨82,28,82,38⟩) (.cons (.for_ (.nm 8 "_law_other" ⟨83,20,83,30⟩) .val (.var 5 "_law_pairs" ⟨83,34,83,44⟩) (.cons (.set 9 "_law_apart_by" ⟨84,20,84,33⟩ (.call "_law_plus" (.acons (.var 7 "_law_one" ⟨84,46,84,54⟩) (.acons (.tup (.acons (.bin .Sub (.int (0) 0 ⟨84,57,84,58⟩) (.ix (.var 8 "_law_other" ⟨84,61,84,71⟩) (.int (0) 0 ⟨84,72,84,73⟩) ⟨84,61,84,74⟩) ⟨84,57,84,74⟩) (.acons (.ix (.var 8 "_law_other" ⟨84,76,84,86⟩) (.int (1) 0 ⟨84,87,84,88⟩) ⟨84,76,84,89⟩) .anil)) 0 ⟨84,56,84,90⟩) .anil)) ⟨84,36,84,45⟩ ⟨84,36,84,91⟩) ⟨84,20,84,91⟩) (.cons (.set 6 "_law_due" ⟨85,20,85,28⟩ (.ite (.call "_law_less" (.acons (.var 6 "_law_due" ⟨85,58,85,66⟩) (.acons (.var 9 "_law_apart_by" ⟨85,68,85,81⟩) .anil)) ⟨85,48,85,57⟩ ⟨85,48,85,82⟩) (.var 9 "_law_apart_by" ⟨85,31,85,44⟩) (.var 6 "_law_due" ⟨85,88,85,96⟩) ⟨85,31,85,96⟩) ⟨85,20,85,96⟩) .nil)) ⟨83,16,85,96⟩) .nil) ⟨82,12,85,96⟩) (.cons (.set 10 "_law_given" ⟨86,12,86,22⟩ (.fb .list (.acons (.var 4 "_law_numbers" ⟨86,30,86,42⟩) .anil) ⟨86,25,86,29⟩ ⟨86,25,86,43⟩) ⟨86,12,86,43⟩) (.cons (.iff (.bop .Or (.acons (.cmp .NotEq (.bi .repr (.acons (.call "spread" (.acons (.var 10 "_law_given" ⟨87,27,87,37⟩) .anil) ⟨87,20,87,26⟩ ⟨87,20,87,38⟩) .anil) ⟨87,15,87,19⟩ ⟨87,15,87,39⟩) (.bi .repr (.acons (.var 6 "_law_due" ⟨87,48,87,56⟩) .anil) ⟨87,43,87,47⟩ ⟨87,43,87,57⟩) ⟨87,15,87,57⟩) (.acons (.cmp .NotEq (.call "spread" (.acons (.bi .tuple (.acons (.call "_law_mixed" (.acons (.var 2 "_law_box_here" ⟨87,85,87,98⟩) (.acons (.var 4 "_law_numbers" ⟨87,100,87,112⟩) .anil)) ⟨87,74,87,84⟩ ⟨87,74,87,113⟩) .anil) ⟨87,68,87,73⟩ ⟨87,68,87,114⟩) .anil) ⟨87,61,87,67⟩ ⟨87,61,87,115⟩) (.var 6 "_law_due" ⟨87,119,87,127⟩) ⟨87,61,87,127⟩) (.acons (.cmp .NotEq (.var 10 "_law_given" ⟨87,131,87,141⟩) (.var 4 "_law_numbers" ⟨87,145,87,157⟩) ⟨87,131,87,157⟩) .anil))) ⟨87,15,87,157⟩) (.cons (.ret (.bl false 0 ⟨88,23,88,28⟩) ⟨88,16,88,28⟩) .nil) .nil ⟨87,12,88,28⟩) (.cons (.set 11 "_law_more" ⟨89,12,89,21⟩ (.bin .Sub (.call "_law_take" (.acons (.var 2 "_law_box_here" ⟨89,34,89,47⟩) (.acons (.int (99) 0 ⟨89,49,89,51⟩) .anil)) ⟨89,24,89,33⟩ ⟨89,24,89,52⟩) (.int (49) 0 ⟨89,55,89,57⟩) ⟨89,24,89,57⟩) ⟨89,12,89,57⟩) (.cons (.iff (.bop .Or (.acons (.cmp .NotEq (.call "spread" (.acons (.lc [("_law_pair_here", 14)] (.call "_law_plus" (.acons (.var 14 "_law_pair_here" ⟨90,33,90,47⟩) (.acons (.tup (.acons (.var 11 "_law_more" ⟨90,50,90,59⟩) (.acons (.int (1) 0 ⟨90,61,90,62⟩) .anil)) 0 ⟨90,49,90,63⟩) .anil)) ⟨90,23,90,32⟩ ⟨90,23,90,64⟩) (.nm 14 "_law_pair_here" ⟨90,69,90,83⟩) .val (.var 5 "_law_pairs" ⟨90,87,90,97⟩) .anil {kind := .function, names := [(".0", .local), ("_law_pair_here", .local), ("_law_plus", .globalImplicit), ("_law_more", .free)], isGenerator := false, isCoroutine := false, more := []} ⟨90,22,90,98⟩) .anil) ⟨90,15,90,21⟩ ⟨90,15,90,99⟩) (.var 6 "_law_due" ⟨90,103,90,111⟩) ⟨90,15,90,111⟩) (.acons (.cmp .NotEq (.call "spread" (.acons (.rep (.acons (.ix (.var 5 "_law_pairs" ⟨90,123,90,133⟩) (.int (0) 0 ⟨90,134,90,135⟩) ⟨90,123,90,136⟩) .anil) (.int (3) 0 ⟨90,140,90,141⟩) ⟨90,122,90,137⟩ ⟨90,122,90,141⟩) .anil) ⟨90,115,90,121⟩ ⟨90,115,90,142⟩) (.tup (.acons (.int (0) 0 ⟨90,147,90,148⟩) (.acons (.int (1) 0 ⟨90,150,90,151⟩) .anil)) 0 ⟨90,146,90,152⟩) ⟨90,115,90,152⟩) .anil)) ⟨90,15,90,152⟩) (.cons (.ret (.bl false 0 ⟨91,23,91,28⟩) ⟨91,16,91,28⟩) .nil) .nil ⟨90,12,91,28⟩) .nil)))))))
def b_in : C := (.cons (.set 9 "_law_apart_by" ⟨84,20,84,33⟩ (.call "_law_plus" (.acons (.var 7 "_law_one" ⟨84,46,84,54⟩) (.acons (.tup (.acons (.bin .Sub (.int (0) 0 ⟨84,57,84,58⟩) (.ix (.var 8 "_law_other" ⟨84,61,84,71⟩) (.int (0) 0 ⟨84,72,84,73⟩) ⟨84,61,84,74⟩) ⟨84,57,84,74⟩) (.acons (.ix (.var 8 "_law_other" ⟨84,76,84,86⟩) (.int (1) 0 ⟨84,87,84,88⟩) ⟨84,76,84,89⟩) .anil)) 0 ⟨84,56,84,90⟩) .anil)) ⟨84,36,84,45⟩ ⟨84,36,84,91⟩) ⟨84,20,84,91⟩) (.cons (.set 6 "_law_due" ⟨85,20,85,28⟩ (.ite (.call "_law_less" (.acons (.var 6 "_law_due" ⟨85,58,85,66⟩) (.acons (.var 9 "_law_apart_by" ⟨85,68,85,81⟩) .anil)) ⟨85,48,85,57⟩ ⟨85,48,85,82⟩) (.var 9 "_law_apart_by" ⟨85,31,85,44⟩) (.var 6 "_law_due" ⟨85,88,85,96⟩) ⟨85,31,85,96⟩) ⟨85,20,85,96⟩) .nil))
def b_out : C := (.cons (.for_ (.nm 8 "_law_other" ⟨83,20,83,30⟩) .val (.var 5 "_law_pairs" ⟨83,34,83,44⟩) (.cons (.set 9 "_law_apart_by" ⟨84,20,84,33⟩ (.call "_law_plus" (.acons (.var 7 "_law_one" ⟨84,46,84,54⟩) (.acons (.tup (.acons (.bin .Sub (.int (0) 0 ⟨84,57,84,58⟩) (.ix (.var 8 "_law_other" ⟨84,61,84,71⟩) (.int (0) 0 ⟨84,72,84,73⟩) ⟨84,61,84,74⟩) ⟨84,57,84,74⟩) (.acons (.ix (.var 8 "_law_other" ⟨84,76,84,86⟩) (.int (1) 0 ⟨84,87,84,88⟩) ⟨84,76,84,89⟩) .anil)) 0 ⟨84,56,84,90⟩) .anil)) ⟨84,36,84,45⟩ ⟨84,36,84,91⟩) ⟨84,20,84,91⟩) (.cons (.set 6 "_law_due" ⟨85,20,85,28⟩ (.ite (.call "_law_less" (.acons (.var 6 "_law_due" ⟨85,58,85,66⟩) (.acons (.var 9 "_law_apart_by" ⟨85,68,85,81⟩) .anil)) ⟨85,48,85,57⟩ ⟨85,48,85,82⟩) (.var 9 "_law_apart_by" ⟨85,31,85,44⟩) (.var 6 "_law_due" ⟨85,88,85,96⟩) ⟨85,31,85,96⟩) ⟨85,20,85,96⟩) .nil)) ⟨83,16,85,96⟩) .nil)

/-- what the pairs are as values -/
def pV (r : Rat) : Vl := .p r.num r.den
theorem pV_D (r : Rat) : (pV r).D = qD r := rfl
theorem pV_q (r : Rat) : (pV r).q = r := Rat.num_divInt_den r
theorem pV_ok {r : Rat} (h : bd 39 r) : (pV r).ok := ⟨Nat.lt_of_lt_of_le h.1 (pow_le' (by decide)), by have := r.den_pos; omega, Nat.lt_of_lt_of_le (by rw [Int.natAbs_natCast]; exact h.2) (pow_le' (by decide))⟩
theorem qs_D (qs : List Rat) : (qs.map pV).map Vl.D = qs.map qD := by simp [Function.comp_def, pV_D]
theorem qs_q (qs : List Rat) : (qs.map pV).map Vl.q = qs := by simp [Function.comp_def, pV_q]
theorem sp_spreadQ (k : Nat) (qs : List Rat) (S : Sto) (h : ∀ x ∈ qs, bd 39 x) (h0 : 0 < qs.length) (hl : qs.length < 100000) : callI T gc (k + 4) "spread" [.d (.lst (qs.map qD))] S = .ok (.d (qD (spr qs))) S := by
  have e := sp_spread k (qs.map pV) S false (fun x hx => by
    obtain ⟨r, hr, rfl⟩ := List.mem_map.mp hx
    exact pV_ok (h r hr)) (by simpa using h0) (by simpa using hl)
  rw [qs_q] at e
  simp only [qs_D] at e
  exact e
theorem vs_pys : ∀ vs : List Vl, ∃ ps, pys (vs.map Vl.D) = some ps ∧ PyData.canLayAll0 ps = true ∧ PyData.depthAll ps ≤ 2
  | [] => ⟨[], rfl, rfl, by decide⟩
  | v :: vs => by
    obtain ⟨ps, h1, h2, h3⟩ := vs_pys vs
    cases v with
    | i n => exact ⟨.int n :: ps, by simp [Vl.D, pys, D.py, h1], by simp [PyData.canLayAll0, PyData.canLay0, h2], by simp [PyData.depthAll, PyData.depth]; omega⟩
    | p u l => exact ⟨.tuple [.int u, .int l] :: ps, by simp [Vl.D, pys, D.py, h1], by simp [PyData.canLayAll0, PyData.canLay0, h2], by simp [PyData.depthAll, PyData.depth]; omega⟩
theorem vs_self (vs : List Vl) (S : Sto) : cmpE .NotEq (.d (.lst (vs.map Vl.D))) (.d (.lst (vs.map Vl.D))) S = .ok (.d (.bl false)) S := by
  obtain ⟨ps, h1, h2, h3⟩ := vs_pys vs
  refine l_self h1 ?_
  simp [SeqAt.shaped, PyData.canLay0, h2, PyData.depth]
  omega
/-- a permutation of drawn values is one of values -/
theorem perm_vs {vs : List Vl} {ds : List D} (p : ds.Perm (vs.map Vl.D)) : ∃ vs' : List Vl, ds = vs'.map Vl.D ∧ vs'.Perm vs := by
  generalize e : vs.map Vl.D = es at p
  induction p generalizing vs with
  | nil =>
    have : vs = [] := by simpa using e
    subst this
    exact ⟨[], rfl, .nil⟩
  | cons x _ ih =>
    cases vs with
    | nil => cases e
    | cons v vs =>
      simp only [List.map_cons, List.cons.injEq] at e
      obtain ⟨vs', h1, h2⟩ := ih e.2
      exact ⟨v :: vs', by rw [List.map_cons, e.1, h1], h2.cons v⟩
  | swap x y l =>
    match vs, e with
    | a :: b :: vs, e =>
      simp only [List.map_cons, List.cons.injEq] at e
      exact ⟨b :: a :: vs, by simp only [List.map_cons, e.1, e.2.1, e.2.2], List.Perm.swap _ _ _⟩
  | trans _ _ ih1 ih2 =>
    obtain ⟨v2, h1, h2⟩ := ih2 e
    obtain ⟨v1, h3, h4⟩ := ih1 h1.symm
    exact ⟨v1, h3, h4.trans h2⟩
theorem sl14 : ∀ {l : Sg}, l.length = 14 → ∃ a b c d e f g h i j k m n o, l = [a, b, c, d, e, f, g, h, i, j, k, m, n, o]
  | [a, b, c, d, e, f, g, h, i, j, k, m, n, o], _ => ⟨a, b, c, d, e, f, g, h, i, j, k, m, n, o, rfl⟩

theorem neg_qD (b : Rat) : D.tup [.int (0 - b.num), .int b.den] = qD (-b) := by
  simp only [qD, Rat.neg_num, Rat.neg_den, Int.zero_sub]
theorem bd_neg {n : Nat} {b : Rat} (h : bd n b) : bd n (-b) := by
  constructor
  · rw [Rat.neg_num, Int.natAbs_neg]; exact h.1
  · rw [Rat.neg_den]; exact h.2
theorem sp_in (k : Nat) (a d b : Rat) (S : Sto) (ha : bd 39 a) (hb : bd 39 b) (hd : bd 1900 d) (x0 x1 x2 x3 x4 x5 x9 x10 x11 x12 x13 x14 : Option W) :
    evS (callI T gc (k + 5)) gc b_in [x0, x1, x2, x3, x4, x5, some (.d (qD d)), some (.d (qD a)), some (.d (qD b)), x9, x10, x11, x12, x13, x14] S = .nx [x0, x1, x2, x3, x4, x5, some (.d (qD (if d < a + -b then a + -b else d))), some (.d (qD a)), some (.d (qD b)), some (.d (qD (a + -b))), x10, x11, x12, x13, x14] S := by
  have h1 : ixE (.d (qD b)) (.d (.int 0)) S = .ok (.d (.int b.num)) S := by unfold qD; exact i_t0
  have h2 : ixE (.d (qD b)) (.d (.int 1)) S = .ok (.d (.int b.den)) S := by unfold qD; exact i_t1
  have h3 : callI T gc (k + 5) "_law_plus" [.d (qD a), .d (.tup [.int (0 - b.num), .int b.den])] S = .ok (.d (qD (a + -b))) S := by
    rw [neg_qD]
    exact sp_lplus (k + 3) a (-b) S (ha.mono (by decide)) (bd_neg (hb.mono (by decide)))
  have h4 : callI T gc (k + 5) "_law_less" [.d (qD d), .d (qD (a + -b))] S = .ok (.d (.bl (decide (d < a + -b)))) S := sp_lless (k + 4) d (a + -b) S (hd.mono (by decide)) ((bd_add ha (bd_neg hb)).mono (by decide))
  simp only [b_in]
  iterate 10 (walk_at "ev"; (try first | simp only [h1, h2, h3, h4]))
  by_cases hlt : d < a + -b
  · simp only [decide_eq_true hlt, if_pos hlt]
    walk_at "ev"
  · simp only [decide_eq_false hlt, if_neg hlt]
    walk_at "ev"
theorem sp_out (k : Nat) (qs : List Rat) (a d : Rat) (S : Sto) (ha : bd 39 a) (hq : ∀ b ∈ qs, bd 39 b) (hd : bd 1900 d) (x0 x1 x2 x3 x4 x8 x9 x10 x11 x12 x13 x14 : Option W) :
    ∃ y8 y9, evS (callI T gc (k + 5)) gc b_out [x0, x1, x2, x3, x4, some (.d (.lst (qs.map qD))), some (.d (qD d)), some (.d (qD a)), x8, x9, x10, x11, x12, x13, x14] S = .nx [x0, x1, x2, x3, x4, some (.d (.lst (qs.map qD))), some (.d (qD (du1 a d qs))), some (.d (qD a)), y8, y9, x10, x11, x12, x13, x14] S ∧ bd 1900 (du1 a d qs) := by
  simp only [b_out]
  walk_at "ev"
  generalize hbd : forB _ _ = bd'
  have hin : ∀ (d b : Rat) (y8 y9 : Option W), bd 39 b → bd 1900 d → bd' (.d (qD b)) [x0, x1, x2, x3, x4, some (.d (.lst (qs.map qD))), some (.d (qD d)), some (.d (qD a)), y8, y9, x10, x11, x12, x13, x14] S = .nx [x0, x1, x2, x3, x4, some (.d (.lst (qs.map qD))), some (.d (qD (if d < a + -b then a + -b else d))), some (.d (qD a)), some (.d (qD b)), some (.d (qD (a + -b))), x10, x11, x12, x13, x14] S := fun d b y8 y9 hb hd => by
    rw [← hbd]
    exact sp_in k a d b S ha hb hd ..
  obtain ⟨h1, h2⟩ := for_fold (bd := bd') (emb := qD) (β := Rat × Option W × Option W) (fun p => [x0, x1, x2, x3, x4, some (.d (.lst (qs.map qD))), some (.d (qD p.1)), some (.d (qD a)), p.2.1, p.2.2, x10, x11, x12, x13, x14]) (fun _ => S) (fun p b => (if p.1 < a + -b then a + -b else p.1, some (.d (qD b)), some (.d (qD (a + -b))))) (fun p => bd 1900 p.1) qs (d, x8, x9) hd (fun p b hb hp => by
    refine ⟨hin p.1 b p.2.1 p.2.2 (hq b hb) hp, ?_⟩
    show bd 1900 (if p.1 < a + -b then a + -b else p.1)
    split
    · exact (bd_add ha (bd_neg (hq b hb))).mono (by decide)
    · exact hp)
  have hf : ∀ (qs : List Rat) (p : Rat × Option W × Option W), (qs.foldl (fun p b => (if p.1 < a + -b then a + -b else p.1, some (.d (qD b)), some (.d (qD (a + -b))))) p).1 = du1 a p.1 qs := by
    intro qs
    induction qs with
    | nil => intro p; rfl
    | cons b qs ih => intro p; rw [List.foldl_cons, ih]; rfl
  simp only [hf] at h1 h2
  rw [h1]
  exact ⟨_, _, rfl, h2⟩

theorem ex_list : ∀ {xs : List D}, (∀ x ∈ xs, ∃ v : Vl, x = v.D ∧ v.ok2) → ∃ vs : List Vl, xs = vs.map Vl.D ∧ ∀ v ∈ vs, v.ok2
  | [], _ => ⟨[], rfl, by simp⟩
  | x :: xs, h => by
    obtain ⟨v, rfl, hv⟩ := h x (by simp)
    obtain ⟨vs, rfl, hvs⟩ := ex_list (xs := xs) fun y hy => h y (by simp [hy])
    exact ⟨v :: vs, rfl, by simpa using ⟨hv, hvs⟩⟩
theorem sp_num (k : Nat) (S : Sto) (n : Nat) (hB : Bx S n) (bd' : W → Sto → R (Option D)) (hb : ∀ (d : D) (S : Sto) (v : Vl) (S' : Sto), callI T gc (k + 5) "_law_value" [.ref n] S = .ok (.d v.D) S' → bd' (.d d) S = .ok (some v.D) S') (ds : List D) (hl : ds.length < 1000) : ∃ (vs : List Vl) (S' : Sto), lcX (fun _ => True) S.length bd' ds (S ++ [.lst []]) = .ok (vs.map Vl.D) S' ∧ Bx S' n ∧ (∀ v ∈ vs, v.ok2) ∧ vs.length = ds.length := by
  obtain ⟨xs, S', h1, h2, h3, h4⟩ := lc_ex (bd := bd') (fun S' => Bx S' n ∧ S'.length = S.length) (fun x => ∃ v : Vl, x = v.D ∧ v.ok2) S.length (fun _ h => h.2) ds S [] ⟨hB, rfl⟩ (by
    rintro d _ S1 acc ⟨hB1, hl1⟩
    obtain ⟨v, w, s, c, e, hv⟩ := sp_value (k + 2) (S1 ++ [.lst acc]) n (hB1.app _)
    refine ⟨v.D, S1.set n (bx w s c), ?_, ⟨hB1.after w s c, by simpa using hl1⟩, v, rfl, hv⟩
    rw [← set_app hB1.lt]
    exact hb d _ v _ e) (by simp; omega)
  obtain ⟨vs, rfl, hvs⟩ := ex_list h3
  exact ⟨vs, S', by simpa using h1, h2.1, hvs, by simpa using h4⟩
theorem sp_pairs (k : Nat) (S : Sto) (bd' : W → Sto → R (Option D)) (vs : List Vl) (hv : ∀ v ∈ vs, v.ok) (hb : ∀ (d r : D) (S : Sto), callI T gc (k + 5) "_law_pair" [.d d] S = .ok (.d r) S → bd' (.d d) S = .ok (some r) S) (hl : vs.length < 1000) : lcX (fun _ => True) S.length bd' (vs.map Vl.D) (S ++ [.lst []]) = .ok ((vs.map Vl.q).map qD) S := by
  rw [lc_map (emb := Vl.D) (fun v => some (qD v.q)) S vs [] (fun v h acc => hb _ _ _ (sp_lpair (k + 3) v _ (hv v h))) (by simp; omega)]
  simp
theorem sp_moved (k : Nat) (c : Rat) (hc : bd 10 c) (S : Sto) (bd' : W → Sto → R (Option D)) (qs : List Rat) (hq : ∀ v ∈ qs, bd 39 v) (hb : ∀ (d r : D) (S : Sto), callI T gc (k + 5) "_law_plus" [.d d, .d (qD c)] S = .ok (.d r) S → bd' (.d d) S = .ok (some r) S) (hl : qs.length < 1000) : lcX (fun _ => True) S.length bd' (qs.map qD) (S ++ [.lst []]) = .ok ((qs.map (· + c)).map qD) S := by
  rw [lc_map (emb := qD) (fun v => some (qD (v + c))) S qs [] (fun v h acc => hb _ _ _ (sp_lplus (k + 3) v c _ ((hq v h).mono (by decide)) (hc.mono (by decide)))) (by simp; omega)]
  simp
theorem sp_outs (k : Nat) (S : Sto) (bd' : W → Sg → Sto → Fl) (qs : List Rat) (hq : ∀ b ∈ qs, bd 39 b) (x0 x1 x2 x3 x4 x10 x11 x12 x13 x14 : Option W) (hb : ∀ (d : D) (x6 x7 x8 x9 : Option W) (r : Fl), evS (callI T gc (k + 5)) gc b_out [x0, x1, x2, x3, x4, some (.d (.lst (qs.map qD))), x6, some (.d d), x8, x9, x10, x11, x12, x13, x14] S = r → bd' (.d d) [x0, x1, x2, x3, x4, some (.d (.lst (qs.map qD))), x6, x7, x8, x9, x10, x11, x12, x13, x14] S = r) : ∀ (as : List Rat) (d : Rat) (x7 x8 x9 : Option W), (∀ a ∈ as, bd 39 a) → bd 1900 d → ∃ y7 y8 y9, forX (fun _ => True) bd' (as.map qD) [x0, x1, x2, x3, x4, some (.d (.lst (qs.map qD))), some (.d (qD d)), x7, x8, x9, x10, x11, x12, x13, x14] S = .nx [x0, x1, x2, x3, x4, some (.d (.lst (qs.map qD))), some (.d (qD (due d as qs))), y7, y8, y9, x10, x11, x12, x13, x14] S ∧ bd 1900 (due d as qs) := by
  intro as
  induction as with
  | nil => intro d x7 x8 x9 _ hd; exact ⟨x7, x8, x9, forX_nil, hd⟩
  | cons a as ih =>
    intro d x7 x8 x9 ha hd
    obtain ⟨y8, y9, e, h1⟩ := sp_out k qs a d S (ha a (by simp)) hq hd x0 x1 x2 x3 x4 x8 x9 x10 x11 x12 x13 x14
    obtain ⟨z7, z8, z9, e2, h2⟩ := ih (du1 a d qs) (some (.d (qD a))) y8 y9 (fun b hb => ha b (by simp [hb])) h1
    refine ⟨z7, z8, z9, ?_, h2⟩
    rw [List.map_cons, forX_cons, hb _ _ _ _ _ _ e]
    exact e2

theorem sp_turn (k : Nat) (S : Sto) (n : Nat) (hB : Bx S n) (x0 x1 x3 x4 x5 x6 x7 x8 x9 x10 x11 x12 x13 x14 : Option W) : ∃ y4 y5 y6 y7 y8 y9 y10 y11 y12 y13 y14 S', evS (callI T gc (k + 5)) gc b_turn [x0, x1, some (.ref n), x3, x4, x5, x6, x7, x8, x9, x10, x11, x12, x13, x14] S = .nx [x0, x1, some (.ref n), x3, y4, y5, y6, y7, y8, y9, y10, y11, y12, y13, y14] S' ∧ Bx S' n := by
  simp only [b_turn]
  walk_at "ev"
  obtain ⟨r, w, s, c, e, r0, r1⟩ := sp_take (k + 4) S n 12 hB (by omega) (by omega)
  simp only [e]
  walk_at "ev"
  rw [v_rng (by omega)]
  walk_at "ev"
  generalize hbd : lcB _ _ _ _ = bd'
  obtain ⟨vs, S1, e1, hB1, hv2, hvl⟩ := sp_num k (S.set n (bx w s c)) n (hB.after w s c) bd' (fun d S v S' h => by
    rw [← hbd]
    iterate 3 (walk_at "ev"; (try simp only [h]))) (rngL 0 (1 + r).toNat) (by rw [rngL_len]; omega)
  rw [rngL_len] at hvl
  clear hbd
  rw [e1]
  walk_at "ev"
  generalize hbd : lcB _ _ _ _ = bd'
  have hv : ∀ v ∈ vs, v.ok := fun v h => (hv2 v h).ok
  rw [sp_pairs k S1 bd' vs hv (fun d r S h => by
    rw [← hbd]
    iterate 3 (walk_at "ev"; (try simp only [h]))) (by omega)]
  clear hbd
  have hq : ∀ q ∈ vs.map Vl.q, bd 39 q := fun q h => by
    obtain ⟨v, h1, rfl⟩ := List.mem_map.mp h
    exact (Vl.bd2 (hv2 v h1)).mono (by decide)
  have hqv : vs.map Vl.q ≠ [] := by
    intro h
    have := congrArg List.length h
    simp at this
    subst this
    simp at hvl
    omega
  generalize hqs : vs.map Vl.q = qs at hq hqv
  walk_at "ev"
  generalize hbd : forB _ _ = bd'
  obtain ⟨y7, y8, y9, e2, hdu⟩ := sp_outs k S1 bd' qs hq x0 x1 (some (.ref n)) x3 (some (.d (.lst (vs.map Vl.D)))) x10 x11 x12 x13 x14 (fun d x6 x7 x8 x9 r h => by
    rw [← hbd]
    exact h) qs 0 x7 x8 x9 hq ⟨by decide +kernel, by decide +kernel⟩
  have e0 : D.tup [.int 0, .int 1] = qD 0 := rfl
  rw [e0, e2]
  clear hbd
  rw [due_spr hqv] at hdu ⊢
  have l0 : 0 < vs.length := by omega
  have es : ∀ S, callI T gc (k + 5) "spread" [.d (.lst (vs.map Vl.D))] S = .ok (.d (qD (spr qs))) S := fun S => by
    rw [← hqs]
    exact sp_spread (k + 1) vs S false hv l0 (by omega)
  iterate 4 (walk_at "ev"; (try simp only [es, q_repr hdu]))
  obtain ⟨ds, w1, s1, c1, e3, hp⟩ := sp_mixed (k + 3) S1 n (vs.map Vl.D) hB1 (by simp; omega)
  obtain ⟨vs', rfl, hp'⟩ := perm_vs hp
  have es' : ∀ S, callI T gc (k + 5) "spread" [.d (.tup (vs'.map Vl.D))] S = .ok (.d (qD (spr qs))) S := fun S => by
    have h := sp_spread (k + 1) vs' S true (fun x hx => hv x (hp'.mem_iff.mp hx)) (by rw [hp'.length_eq]; omega) (by rw [hp'.length_eq]; omega)
    rw [spr_perm (by rw [hqs]; exact hqv) (hp'.map Vl.q), hqs] at h
    exact h
  have e3' : callI T gc (k + 5) "_law_mixed" [.ref n, .d (.lst (vs.map Vl.D))] S1 = .ok (.d (.lst (vs'.map Vl.D))) (S1.set n (bx w1 s1 c1)) := e3
  iterate 6 (walk_at "ev"; (try simp only [e3', es', q_neq, decide_true, Bool.not_true, vs_self]))
  obtain ⟨r2, w2, s2, c2, e4, q0, q1⟩ := sp_take (k + 4) (S1.set n (bx w1 s1 c1)) n 99 (hB1.after w1 s1 c1) (by omega) (by omega)
  have e4' : callI T gc (k + 5) "_law_take" [.ref n, .d (.int 99)] (S1.set n (bx w1 s1 c1)) = .ok (.d (.int r2)) ((S1.set n (bx w1 s1 c1)).set n (bx w2 s2 c2)) := e4
  have hB2 := ((hB1.after w1 s1 c1).after w2 s2 c2)
  simp only [e4']
  walk_at "ev"
  generalize (S1.set n (bx w1 s1 c1)).set n (bx w2 s2 c2) = S2 at hB2
  have hc : bd 10 ((r2 - 49 : Int) : Rat) := bd_int (by omega) (by decide)
  have hcD : D.tup [.int (r2 - 49), .int 1] = qD ((r2 - 49 : Int) : Rat) := rfl
  generalize hbd : lcB _ _ _ _ = bd'
  have hql : qs.length < 1000 := by rw [← hqs]; simp; omega
  have em := sp_moved k _ hc S2 bd' qs hq (fun d r S h => by
    rw [← hbd]
    iterate 4 (walk_at "ev"; (try simp only [hcD, h]))) hql
  clear hbd
  rw [em]
  have esm : ∀ S, callI T gc (k + 5) "spread" [.d (.lst ((qs.map (· + ((r2 - 49 : Int) : Rat))).map qD))] S = .ok (.d (qD (spr qs))) S := fun S => by
    rw [sp_spreadQ (k + 1) _ S (fun x hx => by
      obtain ⟨y, hy, rfl⟩ := List.mem_map.mp hx
      obtain ⟨v, hv1, rfl⟩ := List.mem_map.mp (hqs ▸ hy)
      exact (bd_add (Vl.bd2 (hv2 v hv1)) hc).mono (by decide)) (by
        rw [List.length_map]
        exact List.length_pos_iff.mpr hqv) (by rw [List.length_map]; omega), spr_move hqv]
  obtain ⟨q, qt, hqc⟩ := List.exists_cons_of_ne_nil hqv
  have hi : ∀ S, ixE (.d (.lst (qs.map qD))) (.d (.int 0)) S = .ok (.d (qD q)) S := fun S => by
    rw [hqc]
    exact i_l0
  have hs3 : ∀ S, callI T gc (k + 5) "spread" [.d (.lst [qD q, qD q, qD q])] S = .ok (.d (qD 0)) S := fun S => by
    have h := sp_spreadQ (k + 1) [q, q, q] S (fun x hx => by
      simp at hx
      subst hx
      exact hq x (by rw [hqc]; simp)) (by simp) (by simp)
    rw [spr_same] at h
    exact h
  have hr : ∀ S, repE [qD q] (.d (.int 3)) S = .ok [qD q, qD q, qD q] S := fun S => by
    have sl : sizeLine = 16777216 := sizeLine_eq
    simp only [repE, sl]
    rfl
  iterate 8 (walk_at "ev"; (try simp only [esm, hi, hr, hs3, e0, q_neq, decide_true, Bool.not_true]))
  exact ⟨_, _, _, _, _, _, _, _, _, _, _, _, rfl, hB2⟩

theorem sl12 : ∀ {l : Sg}, l.length = 11 → ∃ a b c d e f g h i j k, l = [a, b, c, d, e, f, g, h, i, j, k]
  | [a, b, c, d, e, f, g, h, i, j, k], _ => ⟨a, b, c, d, e, f, g, h, i, j, k, rfl⟩
theorem sp_law (k : Nat) (ns : List Int) : callI T gc (k + 6) "law" [.d (.lst (ns.map .int))] [] = .ok (.d (.bl true)) [] := by
  rw [c_law, run_eq (by rfl)]
  simp only [F_law, b_law]
  walk_at "ev"
  have e1 : ∃ m : Nat, m ≤ 4 ∧ (if (if ((ns.map D.int).length : Int) < 4 then ((ns.map D.int).length : Int) else 4) > 1 then (if ((ns.map D.int).length : Int) < 4 then ((ns.map D.int).length : Int) else 4) else (1 : Int)) = (m : Int) := by
    simp only [List.length_map]
    by_cases h : (ns.length : Int) < 4
    · rw [if_pos h]
      by_cases h' : (ns.length : Int) > 1
      · rw [if_pos h']; exact ⟨ns.length, by omega, rfl⟩
      · rw [if_neg h']; exact ⟨1, by omega, rfl⟩
    · rw [if_neg h]
      exact ⟨4, by omega, by decide⟩
  obtain ⟨m, hm, em⟩ := e1
  rw [em, v_rng (by omega)]
  walk_at "ev"
  generalize hbd : forB _ _ = bd'
  obtain ⟨τ', S', e, l, hl, rfl⟩ := for_ex (bd := bd') (fun τ _ => ∃ l : Sg, l.length = 14 ∧ τ = some (.d (.lst (ns.map .int))) :: l) (rngL 0 (m : Int).toNat) [some (.d (.lst (ns.map .int))), none, none, none, none, none, none, none, none, none, none, none, none, none, none] [] ⟨_, rfl, rfl⟩ (by
    rintro d hd τ S ⟨l, hl, rfl⟩
    obtain ⟨a1, a2, a3, a4, a5, a6, a7, a8, a9, a10, a11, a12, a13, a14, rfl⟩ := sl14 hl
    obtain ⟨j, hj⟩ := List.getElem?_of_mem hd
    obtain ⟨hj1, rfl⟩ := rngL_get hj
    rw [← hbd]
    walk_at "ev"
    rw [Int.zero_add]
    obtain ⟨w, s, eb⟩ := sp_box (k + 4) S ns j
    rw [eb]
    walk_at "ev"
    rw [v_rng (by decide)]
    walk_at "ev"
    generalize hbd2 : forB _ _ = bd2
    have hb2 : ∀ (x : W) (x0 x1 x2 x3 : Option W) (l : Sg) (S : Sto), bd2 x (x0 :: x1 :: x2 :: x3 :: l) S = evS (callI T gc (k + 5)) gc b_turn (x0 :: x1 :: x2 :: some x :: l) S := fun x x0 x1 x2 x3 l S => by
      rw [← hbd2]
      rfl
    clear hbd2
    obtain ⟨τ2, S2, e2, ⟨x3, l2, hl2, rfl⟩, hB2⟩ := for_ex (bd := bd2) (fun τ S' => (∃ (x3 : Option W) (l : Sg), l.length = 11 ∧ τ = some (.d (.lst (ns.map .int))) :: some (.d (.int (j : Int))) :: some (.ref S.length) :: x3 :: l) ∧ Bx S' S.length) (rngL 0 (8 : Int).toNat) [some (.d (.lst (ns.map .int))), some (.d (.int (j : Int))), some (.ref S.length), a3, a4, a5, a6, a7, a8, a9, a10, a11, a12, a13, a14] (S ++ [bx w s 0]) ⟨⟨_, _, rfl, rfl⟩, w, s, 0, get_last⟩ (by
      rintro d hd τ S3 ⟨⟨x3, l, hl, rfl⟩, hB⟩
      obtain ⟨b4, b5, b6, b7, b8, b9, b10, b11, b12, b13, b14, rfl⟩ := sl12 hl
      obtain ⟨y4, y5, y6, y7, y8, y9, y10, y11, y12, y13, y14, S4, e, hB4⟩ := sp_turn k S3 S.length hB (some (.d (.lst (ns.map .int)))) (some (.d (.int (j : Int)))) (some (.d d)) b4 b5 b6 b7 b8 b9 b10 b11 b12 b13 b14
      exact ⟨_, _, .inl ((hb2 ..).trans e), ⟨_, _, rfl, rfl⟩, hB4⟩)
    rw [e2]
    walk_at "ev"
    exact ⟨_, _, .inl rfl, _, by simp [hl2], rfl⟩)
  rw [e]
  clear e hbd em
  have s1 : ∀ S, callI T gc (k + 5) "spread" [.d (.lst [.int 7])] S = .ok (.d (qD (spr [7]))) S := fun S =>
    sp_spread (k + 1) [.i 7] S false (by simp [Vl.ok]) (by simp) (by simp)
  have s2 : ∀ S, callI T gc (k + 5) "spread" [.d (.lst [.int 3, .tup [.int 1, .int 2]])] S = .ok (.d (qD (spr [3, Rat.divInt 1 2]))) S := fun S =>
    sp_spread (k + 1) [.i 3, .p 1 2] S false (by simp [Vl.ok]) (by simp) (by simp)
  have s3 : ∀ S, callI T gc (k + 5) "spread" [.d (.lst [.tup [.int 2, .int 4], .tup [.int (-3), .int 6]])] S = .ok (.d (qD (spr [Rat.divInt 2 4, Rat.divInt (-3) 6]))) S := fun S =>
    sp_spread (k + 1) [.p 2 4, .p (-3) 6] S false (by simp [Vl.ok]) (by simp) (by simp)
  have t1 : D.tup [.int 0, .int 1] = qD 0 := rfl
  have t2 : D.tup [.int 5, .int 2] = qD (Rat.divInt 5 2) := by
    rw [qD, show (Rat.divInt 5 2).num = 5 by decide +kernel, show (Rat.divInt 5 2).den = 2 by decide +kernel]
    rfl
  have t3 : D.tup [.int 1, .int 1] = qD 1 := rfl
  have u1 : spr [7] = 0 := by decide +kernel
  have u2 : spr [3, Rat.divInt 1 2] = Rat.divInt 5 2 := by decide +kernel
  have u3 : spr [Rat.divInt 2 4, Rat.divInt (-3) 6] = 1 := by decide +kernel
  rw [u1] at s1
  rw [u2] at s2
  rw [u3] at s3
  iterate 8 (walk_at "ev"; (try simp only [s1, s2, s3, t1, t2, t3, q_eq, decide_true]))
  rw [List.take_zero]

theorem law_true (ns : List Int) (_ : ns.length ≤ 63) : callI T gc 12 "law" [.d (.lst (ns.map .int))] [] = .ok (.d (.bl true)) [] := sp_law 6 ns
end K35
namespace K35
open PySem PySem.Spec PyProof.Rows L2 TM
theorem end_mk {P : Program} {w : World} {K : PySem.W.Frag} {h : Heap} {mg : Str → Option Value} {fa : Addr} (X : K.In h) (G : h.Ns mainGlobals mg) (hfa : mg "law" = some (.ref fa))
    (h_greatest_part : At K "greatest_part" (topS 1))
    (h_ratio : At K "ratio" (topS 2))
    (h_ratio_of : At K "ratio_of" (topS 3))
    (h_minus : At K "minus" (topS 4))
    (h_less : At K "less" (topS 5))
    (h_greatest : At K "greatest" (topS 6))
    (h_least : At K "least" (topS 7))
    (h_spread : At K "spread" (topS 9))
    (h_law_box : At K "_law_box" (topS 11))
    (h_law_take : At K "_law_take" (topS 12))
    (h_law_pick : At K "_law_pick" (topS 13))
    (h_law_mixed : At K "_law_mixed" (topS 14))
    (h_law_ratio : At K "_law_ratio" (topS 15))
    (h_law_plus : At K "_law_plus" (topS 16))
    (h_law_value : At K "_law_value" (topS 17))
    (h_law_pair : At K "_law_pair" (topS 18))
    (h_law_less : At K "_law_less" (topS 19))
    (h_law : At K "law" (topS 20))
    (hb : ∀ x ∈ bltNames, PySem.W.nsIn K mainGlobals x = some none) :
    ∃ fd : FuncData, (∀ (s : Shared) (v : Value), BindsTo s fd ⟨[v], []⟩ [("_law_script", v)]) ∧ ∀ base : Heap, K.In base → base.Ns mainGlobals mg → FnG P w K mg base 12 fa fd ["_law_script"] (spO K cA0 (callI T gc 12 "law")) := by
  have t := tab_mk X G h_greatest_part h_ratio h_ratio_of h_minus h_less h_greatest h_least h_spread h_law_box h_law_take h_law_pick h_law_mixed h_law_ratio h_law_plus h_law_value h_law_pair h_law_less h_law hb
  exact h_law.fin X G hfa (fun s v => .of_eq rfl) fun base a fd hf => tab_fn t (fun x d h => nomatch (show (none : Option D) = some d from h)) 12 "law" F_law T_law (topS 20) a fd hf w_law e_law
end K35

open PySem PySem.W PyProof.Rows
set_option maxRecDepth 100000 in
set_option maxHeartbeats 0 in
theorem PySem.Challenge.cw_talkmeans_k35_spreads_holds : PySem.Challenge.rw_talkmeans_k35_spreads.Holds := by
  w_on; o_law; k_head; (case hw => w_witness2)
  k_fill
  refine TM.walk_G (l := PySem.Challenge.rw_talkmeans_k35_spreads) (n := 63) (k := 12) (x := "_law_script") (sp := fun w => TM.spO _ K35.cA0 (TM.callI K35.T K35.gc 12 "law")) rfl (by decide) rfl ⟨rfl, by decide, by decide⟩ (fun w h Y => PySem.W.kIn_of Y) ?F (fun w H a ns hl hS => TM.law_ok hS (K35.law_true ns hl))
  case F =>
    intro w mg fa h KX G hmg
    refine' K35.end_mk KX G hmg ?h0 ?h1 ?h2 ?h3 ?h4 ?h5 ?h6 ?h7 ?h8 ?h9 ?h10 ?h11 ?h12 ?h13 ?h14 ?h15 ?h16 ?h17 ?hb
    (case h0 => refine' TM.At.mk ?a ?l ?c ?k; (case a => k_is); (case l => k_is); (case c => k_is); (case k => k_is))
    (case h1 => refine' TM.At.mk ?a ?l ?c ?k; (case a => k_is); (case l => k_is); (case c => k_is); (case k => k_is))
    (case h2 => refine' TM.At.mk ?a ?l ?c ?k; (case a => k_is); (case l => k_is); (case c => k_is); (case k => k_is))
    (case h3 => refine' TM.At.mk ?a ?l ?c ?k; (case a => k_is); (case l => k_is); (case c => k_is); (case k => k_is))
    (case h4 => refine' TM.At.mk ?a ?l ?c ?k; (case a => k_is); (case l => k_is); (case c => k_is); (case k => k_is))
    (case h5 => refine' TM.At.mk ?a ?l ?c ?k; (case a => k_is); (case l => k_is); (case c => k_is); (case k => k_is))
    (case h6 => refine' TM.At.mk ?a ?l ?c ?k; (case a => k_is); (case l => k_is); (case c => k_is); (case k => k_is))
    (case h7 => refine' TM.At.mk ?a ?l ?c ?k; (case a => k_is); (case l => k_is); (case c => k_is); (case k => k_is))
    (case h8 => refine' TM.At.mk ?a ?l ?c ?k; (case a => k_is); (case l => k_is); (case c => k_is); (case k => k_is))
    (case h9 => refine' TM.At.mk ?a ?l ?c ?k; (case a => k_is); (case l => k_is); (case c => k_is); (case k => k_is))
    (case h10 => refine' TM.At.mk ?a ?l ?c ?k; (case a => k_is); (case l => k_is); (case c => k_is); (case k => k_is))
    (case h11 => refine' TM.At.mk ?a ?l ?c ?k; (case a => k_is); (case l => k_is); (case c => k_is); (case k => k_is))
    (case h12 => refine' TM.At.mk ?a ?l ?c ?k; (case a => k_is); (case l => k_is); (case c => k_is); (case k => k_is))
    (case h13 => refine' TM.At.mk ?a ?l ?c ?k; (case a => k_is); (case l => k_is); (case c => k_is); (case k => k_is))
    (case h14 => refine' TM.At.mk ?a ?l ?c ?k; (case a => k_is); (case l => k_is); (case c => k_is); (case k => k_is))
    (case h15 => refine' TM.At.mk ?a ?l ?c ?k; (case a => k_is); (case l => k_is); (case c => k_is); (case k => k_is))
    (case h16 => refine' TM.At.mk ?a ?l ?c ?k; (case a => k_is); (case l => k_is); (case c => k_is); (case k => k_is))
    (case h17 => refine' TM.At.mk ?a ?l ?c ?k; (case a => k_is); (case l => k_is); (case c => k_is); (case k => k_is))
    (case hb => refine' TM.blt_mk ?z0 ?z1 ?z2 ?z3 ?z4 ?z5 ?z6 ?z7 ?z8 ?z9 ?z10 ?z11 ?z12 ?z13 ?z14 ?z15 ?z16; (case z0 => k_is); (case z1 => k_is); (case z2 => k_is); (case z3 => k_is); (case z4 => k_is); (case z5 => k_is); (case z6 => k_is); (case z7 => k_is); (case z8 => k_is); (case z9 => k_is); (case z10 => k_is); (case z11 => k_is); (case z12 => k_is); (case z13 => k_is); (case z14 => k_is); (case z15 => k_is); (case z16 => k_is))

