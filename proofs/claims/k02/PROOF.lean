import PyProof.Rows.All
import Wide.All
import OpenK.AllK
import Wide.FinOn
import HandS.ForMost
import HandS.ForExc
import HandS.CallSlots
import HandS.TupAny
import HandS.Walk
import HandS.IsInst
import HandS.TupMul
import KE.KEqNest
import PyProof.NeKinds
import HandS.RaiseMore
import HandS.FStr
import KE.KSuper
import KE.KExcSuper
import HandS.Nested
import HandS.ExcInit
import HandS.ExcField
import KE.KExcIs
import HandS.ExcIs
import HandS.DictComp
import HandS.Property
import HandS.Defaults
import KE.KIntText
import KE.KxText
import PyProof.Rows.ReprOcc
import PyProof.Rows.StrFin3
import PySem.Challenge.RW_standsfor_k02_expressions_anywhere
import KE.RegKSuper
set_option Elab.async false
set_option linter.all false
set_option maxRecDepth 100000
set_option maxHeartbeats 4000000
set_option autoImplicit false
namespace Mi
open PySem PySem.Spec PyProof.Rows L2

/-! ### abstract values, objects, stores -/
inductive D where
  | non | bl (b : Bool) | int (i : Int) | str (x : Str) | tup (ds : List D) | frl (ds : List D) | ref (n : Nat)
structure Exn where
  cls : Str
  fs : List (Str × D)
inductive O where
  | lst (ds : List D)
  | dct (kvs : List (Key × D))
  | lck (kvs : List (Key × D))
  | ins (C : Str) (fs : List (Str × D))
abbrev So := List O
abbrev Sl := L2.St
abbrev Ro := List (Option D)
structure Gs where
  K : PySem.W.Frag
  cl : Str → Option Addr
  fx : List (Nat × V) := []
  xx : List (Value × Option Addr × Exn) := []

/-! ### relations -/
def FzL (K : PySem.W.Frag) (H : Hp) (a : Addr) (xs : List V) : Prop := (∃ o, H a = some (.frz o (.lst xs))) ∨ ∀ H', SqL K H' a xs
mutual
inductive RD (K : PySem.W.Frag) (β : List Addr) (H : Hp) : V → D → Prop
  | non : RD K β H .non .non
  | bl (b : Bool) : RD K β H (.bl b) (.bl b)
  | int (i : Int) : RD K β H (.int i) (.int i)
  | str (x : Str) : RD K β H (.str x) (.str x)
  | tup {a : Addr} {xs : List V} {ds : List D} : SqT K H a xs → RDs K β H xs ds → RD K β H (.ref a) (.tup ds)
  | frl {a : Addr} {xs : List V} {ds : List D} : FzL K H a xs → RDs K β H xs ds → RD K β H (.ref a) (.frl ds)
  | ref {n : Nat} {a : Addr} : β[n]? = some a → RD K β H (.ref a) (.ref n)
inductive RDs (K : PySem.W.Frag) (β : List Addr) (H : Hp) : List V → List D → Prop
  | nil : RDs K β H [] []
  | cons {x : V} {d : D} {xs : List V} {ds : List D} : RD K β H x d → RDs K β H xs ds → RDs K β H (x :: xs) (d :: ds)
end
def Imm : HO → Prop
  | .tup _ => True
  | .frz _ (.lst _) => True
  | .frz _ (.tup _) => True
  | .xd _ => True
  | _ => False
/-- what a value's sight leans on -/
structure Ew (β : List Addr) (H : Hp) (β' : List Addr) (H' : Hp) : Prop where
  pre : ∀ (n : Nat) (a : Addr), β[n]? = some a → β'[n]? = some a
  imm : ∀ (a : Addr) (o : HO), Imm o → H a = some o → H' a = some o
/-- .. and what is locked stays so -/
structure Ex (β : List Addr) (H : Hp) (β' : List Addr) (H' : Hp) : Prop extends Ew β H β' H' where
  lk : ∀ (a : Addr) (o : Obj) (u : HO), H a = some (.frz o u) → H' a = some (.frz o u)
instance {β : List Addr} {H : Hp} {β' : List Addr} {H' : Hp} : CoeOut (Ex β H β' H') (Ew β H β' H') := ⟨Ex.toEw⟩
theorem Ex.refl {β : List Addr} {H : Hp} : Ex β H β H := ⟨⟨fun _ _ h => h, fun _ _ _ h => h⟩, fun _ _ _ h => h⟩
theorem Ex.trans {β β1 β2 : List Addr} {H H1 H2 : Hp} (a : Ex β H β1 H1) (b : Ex β1 H1 β2 H2) : Ex β H β2 H2 := ⟨⟨fun n x h => b.pre n x (a.pre n x h), fun x o i h => b.imm x o i (a.imm x o i h)⟩, fun x o u h => b.lk x o u (a.lk x o u h)⟩
section
variable {K : PySem.W.Frag} {cl : Str → Option Addr} {β β' : List Addr} {H H' : Hp} {a p : Addr} {xs : List V}
theorem sqT_ex (e : Ew β H β' H') (h : SqT K H a xs) : SqT K H' a xs := by
  rcases h with (h | ⟨o, h⟩) | h
  · exact .inl (.inl (e.imm _ _ trivial h))
  · exact .inl (.inr ⟨o, e.imm _ _ trivial h⟩)
  · exact .inr h
theorem fzL_ex (e : Ew β H β' H') (h : FzL K H a xs) : FzL K H' a xs := by
  rcases h with ⟨o, h⟩ | h
  · exact .inl ⟨o, e.imm _ _ trivial h⟩
  · exact .inr h
theorem FzL.sq (h : FzL K H a xs) : SqL K H a xs := by
  rcases h with ⟨o, h⟩ | h
  · exact .inl (.inr ⟨o, h⟩)
  · exact h H
mutual
theorem RD.mono (e : Ew β H β' H') : ∀ {v : V} {d : D}, RD K β H v d → RD K β' H' v d
  | _, _, .non => .non
  | _, _, .bl b => .bl b
  | _, _, .int i => .int i
  | _, _, .str x => .str x
  | _, _, .tup h r => .tup (sqT_ex e h) (RDs.mono e r)
  | _, _, .frl h r => .frl (fzL_ex e h) (RDs.mono e r)
  | _, _, .ref h => .ref (e.pre _ _ h)
theorem RDs.mono (e : Ew β H β' H') : ∀ {vs : List V} {ds : List D}, RDs K β H vs ds → RDs K β' H' vs ds
  | _, _, .nil => .nil
  | _, _, .cons h r => .cons (RD.mono e h) (RDs.mono e r)
end
theorem RDs.length : ∀ {vs : List V} {ds : List D}, RDs K β H vs ds → vs.length = ds.length
  | _, _, .nil => rfl
  | _, _, .cons _ r => by simp [RDs.length r]
theorem RDs.get : ∀ {vs : List V} {ds : List D}, RDs K β H vs ds → ∀ {i : Nat} {d : D}, ds[i]? = some d → ∃ v, vs[i]? = some v ∧ RD K β H v d
  | _, _, .nil, i, d, h => by simp at h
  | _, _, .cons h r, 0, d, e => by
    simp at e
    subst e
    exact ⟨_, rfl, h⟩
  | _, _, .cons h r, i + 1, d, e => by
    obtain ⟨v, h1, h2⟩ := RDs.get r (i := i) (d := d) (by simpa using e)
    exact ⟨v, by simpa using h1, h2⟩
theorem RDs.append : ∀ {vs ws : List V} {ds es : List D}, RDs K β H vs ds → RDs K β H ws es → RDs K β H (vs ++ ws) (ds ++ es)
  | _, _, _, _, .nil, s => s
  | _, _, _, _, .cons h r, s => .cons h (RDs.append r s)
theorem RDs.drop : ∀ {vs : List V} {ds : List D} (n : Nat), RDs K β H vs ds → RDs K β H (vs.drop n) (ds.drop n)
  | _, _, 0, h => h
  | _, _, _ + 1, .nil => .nil
  | _, _, n + 1, .cons _ r => RDs.drop n r
theorem RDs.take : ∀ {vs : List V} {ds : List D} (n : Nat), RDs K β H vs ds → RDs K β H (vs.take n) (ds.take n)
  | _, _, 0, _ => .nil
  | _, _, _ + 1, .nil => .nil
  | _, _, n + 1, .cons h r => .cons h (RDs.take n r)
theorem RDs.set {x : V} {d : D} (r : RD K β H x d) : ∀ {vs : List V} {ds : List D} (i : Nat), RDs K β H vs ds → RDs K β H (vs.set i x) (ds.set i d)
  | _, _, _, .nil => .nil
  | _, _, 0, .cons _ t => .cons r t
  | _, _, i + 1, .cons q t => .cons q (RDs.set r i t)
theorem RDs.dropLast : ∀ {vs : List V} {ds : List D}, RDs K β H vs ds → RDs K β H vs.dropLast ds.dropLast
  | _, _, .nil => .nil
  | _, _, .cons h .nil => .nil
  | _, _, .cons h (.cons h2 r) => .cons h (RDs.dropLast (.cons h2 r))
theorem RDs.one {vs : List V} {d : D} (h : RDs K β H vs [d]) : ∃ v, vs = [v] ∧ RD K β H v d := by
  cases h with
  | cons a b => cases b; exact ⟨_, rfl, a⟩
theorem RDs.two {vs : List V} {d e : D} (h : RDs K β H vs [d, e]) : ∃ v w, vs = [v, w] ∧ RD K β H v d ∧ RD K β H w e := by
  cases h with
  | cons a b => obtain ⟨w, rfl, c⟩ := b.one; exact ⟨_, _, rfl, a, c⟩
theorem RDs.ints (ns : List Int) : RDs K β H (ns.map V.int) (ns.map D.int) := by
  induction ns with
  | nil => exact .nil
  | cons n r ih => exact .cons (.int n) ih
end

/-- pairs of a key and a value -/
def RPs {κ : Type} (K : PySem.W.Frag) (β : List Addr) (H : Hp) : List (κ × V) → List (κ × D) → Prop := Paired fun p q => p.1 = q.1 ∧ RD K β H p.2 q.2
section
variable {κ : Type} {K : PySem.W.Frag} {cl : Str → Option Addr} {β β' : List Addr} {H H' : Hp}
theorem RPs.mono (e : Ew β H β' H') {ys : List (κ × V)} {kvs : List (κ × D)} (h : RPs K β H ys kvs) : RPs K β' H' ys kvs := Paired.mapP h fun _ _ x => ⟨x.1, x.2.mono e⟩
theorem RPs.length {ys : List (κ × V)} {kvs : List (κ × D)} (h : RPs K β H ys kvs) : ys.length = kvs.length := Paired.length h
end

def RO (K : PySem.W.Frag) (cl : Str → Option Addr) (β : List Addr) (H : Hp) (a : Addr) : O → Prop
  | .lst ds => ∃ xs, H a = some (.lst xs) ∧ RDs K β H xs ds
  | .dct kvs => ∃ ys, H a = some (.dK ys) ∧ RPs K β H ys kvs
  | .lck kvs => ∃ ys o, H a = some (.frz o (.dK ys)) ∧ RPs K β H ys kvs
  | .ins C fs => ∃ Ca dx ys, cl C = some Ca ∧ H a = some (.ins Ca dx ys) ∧ RPs K β H ys fs
structure Rl (K : PySem.W.Frag) (cl : Str → Option Addr) (β : List Addr) (S : So) (H : Hp) : Prop where
  len : β.length = S.length
  inj : ∀ (m n : Nat) (a : Addr), β[m]? = some a → β[n]? = some a → m = n
  obj : ∀ (n : Nat) (a : Addr) (o : O), β[n]? = some a → S[n]? = some o → RO K cl β H a o
def RX (K : PySem.W.Frag) (cl : Str → Option Addr) (β : List Addr) (H : Hp) (cls : Value) (d : Option Addr) (c : Exn) : Prop :=
  ∃ Ca dd ys, cl c.cls = some Ca ∧ cls = .ref Ca ∧ d = some dd ∧ H dd = some (.xd ys) ∧ RPs K β H ys c.fs
structure RVs (G : Gs) (β : List Addr) (H : Hp) (σ : Sl) (ρ : Ro) : Prop where
  len : σ.length = ρ.length
  slot : ∀ (i : Nat) (d : D), ρ[i]? = some (some d) → ∃ v, σ[i]? = some (some v) ∧ RD G.K β H v d
  fx : ∀ p ∈ G.fx, σ[p.1]? = some (some p.2)
  xx : ∀ t ∈ G.xx, RX G.K G.cl β H t.1 t.2.1 t.2.2
section
variable {G : Gs} {K : PySem.W.Frag} {cl : Str → Option Addr} {β β' : List Addr} {S : So} {H H' : Hp} {a p : Addr} {o o' : O} {ho : HO} {n : Nat} {σ : Sl} {ρ : Ro}
theorem RX.mono {cls : Value} {d : Option Addr} {c : Exn} (e : Ew β H β' H') (h : RX K cl β H cls d c) : RX K cl β' H' cls d c := by
  obtain ⟨Ca, dd, ys, h1, h2, h3, h4, h5⟩ := h
  exact ⟨Ca, dd, ys, h1, h2, h3, e.imm _ _ trivial h4, h5.mono e⟩
theorem RVs.mono (e : Ew β H β' H') (h : RVs G β H σ ρ) : RVs G β' H' σ ρ :=
  ⟨h.len, fun i d q => let ⟨v, h1, h2⟩ := h.slot i d q; ⟨v, h1, h2.mono e⟩, h.fx, fun t ht => (h.xx t ht).mono e⟩
theorem RO.keep (e : Ew β H β' H') (hs : H' a = H a) (h : RO K cl β H a o) : RO K cl β' H' a o := by
  cases o with
  | lst ds => obtain ⟨xs, h1, h2⟩ := h; exact ⟨xs, hs.trans h1, h2.mono e⟩
  | dct kvs => obtain ⟨xs, h1, h2⟩ := h; exact ⟨xs, hs.trans h1, h2.mono e⟩
  | lck kvs => obtain ⟨xs, o, h1, h2⟩ := h; exact ⟨xs, o, hs.trans h1, h2.mono e⟩
  | ins C fs => obtain ⟨Ca, dx, ys, h0, h1, h2⟩ := h; exact ⟨Ca, dx, ys, h0, hs.trans h1, h2.mono e⟩
theorem RO.there (h : RO K cl β H a o) : ∃ x, H a = some x ∧ ¬ Imm x := by
  cases o with
  | lst ds => obtain ⟨xs, h1, _⟩ := h; exact ⟨_, h1, fun z => z⟩
  | dct kvs => obtain ⟨xs, h1, _⟩ := h; exact ⟨_, h1, fun z => z⟩
  | lck kvs => obtain ⟨xs, o, h1, _⟩ := h; exact ⟨_, h1, fun z => z⟩
  | ins C fs => obtain ⟨Ca, dx, ys, _, h1, _⟩ := h; exact ⟨_, h1, fun z => z⟩
theorem get_of_len {α β : Type} {l : List α} {m : List β} (e : l.length = m.length) {n : Nat} {y : β} (h : m[n]? = some y) : ∃ x, l[n]? = some x := by
  have h1 := (List.getElem?_eq_some_iff.mp h).1
  exact ⟨l[n]'(by omega), List.getElem?_eq_getElem (by omega)⟩
theorem Rl.at (R : Rl K cl β S H) (h : S[n]? = some o) : ∃ a, β[n]? = some a ∧ RO K cl β H a o := by
  obtain ⟨a, ha⟩ := get_of_len R.len h
  exact ⟨a, ha, R.obj n a o ha h⟩
theorem Rl.get (R : Rl K cl β S H) (h : S[n]? = some o) (ha : β[n]? = some a) : RO K cl β H a o := R.obj n a o ha h
theorem Rl.mut (R : Rl K cl β S H) (ha : β[n]? = some a) : ∃ x, H a = some x ∧ ¬ Imm x := by
  obtain ⟨o, ho⟩ := get_of_len R.len.symm ha
  exact (R.obj n a o ha ho).there
/-- an object of the store is changed -/
theorem Rl.upd (R : Rl K cl β S H) (ha : β[n]? = some a) (nf : ∀ o u, H a ≠ some (.frz o u)) (new : Ex β H β (upd H a ho) → RO K cl β (L2.upd H a ho) a o') : Rl K cl β (S.set n o') (L2.upd H a ho) ∧ Ex β H β (L2.upd H a ho) := by
  obtain ⟨x, hx, ni⟩ := R.mut ha
  have e : Ex β H β (L2.upd H a ho) := ⟨⟨fun _ _ h => h, fun b q i h => by
    rw [upd_ne]
    · exact h
    · rintro rfl
      rw [hx] at h
      cases h
      exact ni i⟩, fun b q u h => by
    rw [upd_ne]
    · exact h
    · rintro rfl
      exact nf q u h⟩
  refine ⟨⟨by rw [R.len, List.length_set], R.inj, fun m b q hb hq => ?_⟩, e⟩
  by_cases hm : m = n
  · subst hm
    rw [ha] at hb
    cases hb
    have hlt : m < S.length := by rw [← R.len]; exact (List.getElem?_eq_some_iff.mp ha).1
    rw [List.getElem?_set_self hlt] at hq
    cases hq
    exact new e
  · rw [List.getElem?_set_ne (Ne.symm hm)] at hq
    have hne : b ≠ a := fun z => hm (R.inj m n a (by rw [← z]; exact hb) ha)
    exact (R.obj m b q hb hq).keep e (upd_ne hne)
theorem Ex.fresh (hp : H p = none) : Ex β H β (L2.upd H p ho) := ⟨⟨fun _ _ h => h, fun b q _ h => by
  rw [upd_ne (ne_of_none h hp)]
  exact h⟩, fun b q u h => by
  rw [upd_ne (ne_of_none h hp)]
  exact h⟩
theorem Rl.not_in (R : Rl K cl β S H) (hp : H p = none) {m : Nat} : β[m]? ≠ some p := fun h => by
  obtain ⟨x, hx, _⟩ := R.mut h
  rw [hp] at hx
  cases hx
/-- a thing that the store does not hold is laid -/
theorem Rl.fresh (R : Rl K cl β S H) (hp : H p = none) : Rl K cl β S (L2.upd H p ho) :=
  ⟨R.len, R.inj, fun m b q hb hq => (R.obj m b q hb hq).keep (Ex.fresh (ho := ho) hp).toEw (upd_ne fun z => R.not_in hp (z ▸ hb))⟩
theorem Ex.new (hp : H p = none) : Ex β H (β ++ [p]) (L2.upd H p ho) := ⟨⟨fun n a h => by
  rw [List.getElem?_append_left (List.getElem?_eq_some_iff.mp h).1]
  exact h, fun b q _ h => by
  rw [upd_ne (ne_of_none h hp)]
  exact h⟩, fun b q u h => by
  rw [upd_ne (ne_of_none h hp)]
  exact h⟩
/-- a new object of the store -/
theorem Rl.new (R : Rl K cl β S H) (hp : H p = none) (new : RO K cl (β ++ [p]) (L2.upd H p ho) p o') : Rl K cl (β ++ [p]) (S ++ [o']) (L2.upd H p ho) := by
  have last : ∀ {m : Nat} {b : Addr}, (β ++ [p])[m]? = some b → β[m]? = some b ∨ (m = β.length ∧ b = p) := fun {m b} h => by
    rcases Nat.lt_trichotomy m β.length with hm | hm | hm
    · rw [List.getElem?_append_left hm] at h
      exact .inl h
    · subst hm
      rw [List.getElem?_append_right (Nat.le_refl _)] at h
      simp at h
      exact .inr ⟨rfl, h.symm⟩
    · rw [List.getElem?_eq_none (by simp; omega)] at h
      cases h
  refine ⟨by simp [R.len], fun m n b h1 h2 => ?_, fun m b q hb hq => ?_⟩
  · rcases last h1 with q1 | ⟨q1, e1⟩ <;> rcases last h2 with q2 | ⟨q2, e2⟩
    · exact R.inj m n b q1 q2
    · subst e2; exact absurd q1 (R.not_in hp)
    · subst e1; exact absurd q2 (R.not_in hp)
    · omega
  · rcases last hb with h1 | ⟨h1, e1⟩
    · have hm : m < S.length := by rw [← R.len]; exact (List.getElem?_eq_some_iff.mp h1).1
      rw [List.getElem?_append_left hm] at hq
      exact (R.obj m b q h1 hq).keep (Ex.new (ho := ho) hp).toEw (upd_ne fun z => R.not_in hp (z ▸ h1))
    · subst e1
      have : m = S.length := by rw [h1, R.len]
      subst this
      rw [List.getElem?_append_right (Nat.le_refl _)] at hq
      simp at hq
      subst hq
      exact new
theorem RVs.set {i : Nat} {v : V} {d : D} (h : RVs G β H σ ρ) (r : RD G.K β H v d) (hf : ∀ p ∈ G.fx, p.1 ≠ i) : RVs G β H (σ.set i (some v)) (ρ.set i (some d)) := by
  refine ⟨by simp [h.len], fun j e q => ?_, fun p hp => ?_, h.xx⟩
  · by_cases hj : j = i
    · subst hj
      have hlt : j < ρ.length := by
        have := (List.getElem?_eq_some_iff.mp q).1
        simpa using this
      rw [List.getElem?_set_self hlt] at q
      cases q
      exact ⟨v, List.getElem?_set_self (by rw [h.len]; exact hlt), r⟩
    · rw [List.getElem?_set_ne (Ne.symm hj)] at q ⊢
      exact h.slot j e q
  · rw [List.getElem?_set_ne (Ne.symm (hf p hp))]
    exact h.fx p hp
theorem RVs.clear {i : Nat} {x : Option V} (h : RVs G β H σ ρ) (hf : ∀ p ∈ G.fx, p.1 ≠ i) : RVs G β H (σ.set i x) (ρ.set i none) := by
  refine ⟨by simp [h.len], fun j e q => ?_, fun p hp => ?_, h.xx⟩
  · by_cases hj : j = i
    · subst hj
      by_cases hlt : j < ρ.length
      · rw [List.getElem?_set_self hlt] at q
        cases q
      · rw [List.getElem?_eq_none (by simpa using hlt)] at q
        cases q
    · rw [List.getElem?_set_ne (Ne.symm hj)] at q ⊢
      exact h.slot j e q
  · rw [List.getElem?_set_ne (Ne.symm (hf p hp))]
    exact h.fx p hp
end

/-! ### results -/
inductive Rs (α : Type) where
  | ok (a : α) (S : So)
  | ex (c : Exn) (r : Ro) (S : So)
  | stuck
def Rs.bind {α γ : Type} (r : Rs α) (f : α → So → Rs γ) : Rs γ := match r with
  | .ok a S => f a S
  | .ex c r S => .ex c r S
  | .stuck => .stuck
@[simp] theorem Rs.bind_ok {α γ : Type} (a : α) (S : So) (f : α → So → Rs γ) : (Rs.ok a S).bind f = f a S := rfl
@[simp] theorem Rs.bind_ex {α γ : Type} (c : Exn) (r : Ro) (S : So) (f : α → So → Rs γ) : (Rs.ex c r S : Rs α).bind f = .ex c r S := rfl
@[simp] theorem Rs.bind_stuck {α γ : Type} (f : α → So → Rs γ) : (Rs.stuck : Rs α).bind f = .stuck := rfl
def Gd {α : Type} (G : Gs) (W : WX) (β : List Addr) (H : Hp) (r : Rs α) (k : α → So → List Addr → Hp → Prop) : Prop := match r with
  | .ok a S => ∀ β' H', Ex β H β' H' → Rl G.K G.cl β' S H' → k a S β' H'
  | .ex c ρ S => ∀ β' H' σ cls d, Ex β H β' H' → Rl G.K G.cl β' S H' → RVs G β' H' σ ρ → RX G.K G.cl β' H' cls d c → W cls d σ H'
  | .stuck => False
section
variable {α γ : Type} {G : Gs} {W : WX} {β β' : List Addr} {H H' : Hp} {r : Rs α} {f : α → So → Rs γ}
theorem Gd.mono {k : α → So → List Addr → Hp → Prop} (e : Ex β H β' H') (h : Gd G W β H r k) : Gd G W β' H' r k := by
  cases r with
  | ok a S => exact fun b c e' R => h b c (e.trans e') R
  | ex c ρ S => exact fun b q σ cls d e' R V x => h b q σ cls d (e.trans e') R V x
  | stuck => exact h
theorem Gd.imp {k k' : α → So → List Addr → Hp → Prop} (h : Gd G W β H r k) (hk : ∀ a S β' H', Ex β H β' H' → Rl G.K G.cl β' S H' → k a S β' H' → k' a S β' H') : Gd G W β H r k' := by
  cases r with
  | ok a S => exact fun b c e' R => hk _ _ _ _ e' R (h b c e' R)
  | ex c ρ S => exact h
  | stuck => exact h
theorem Gd.bind {k : γ → So → List Addr → Hp → Prop} (h : Gd G W β H (r.bind f) k) : Gd G W β H r fun a S β' H' => Gd G W β' H' (f a S) k := by
  cases r with
  | ok a S => exact fun b c e' _ => Gd.mono e' h
  | ex c ρ S => exact h
  | stuck => exact h
end

/-! ### mirrors and their readings -/
abbrev ME := Ro → So → Rs D
abbrev MT := Ro → So → Rs Bool
abbrev MA := Ro → So → Rs (List D)
inductive Fl where
  | nx | bk | ct | rt (d : D)
abbrev MS := Ro → So → Rs (Fl × Ro)
abbrev MF := List D → So → Rs D
def kV (G : Gs) (Q : VK) : D → So → List Addr → Hp → Prop := fun d _ β' H' => ∀ v, RD G.K β' H' v d → Q v H'
def kT (Q : Bool → Hp → Prop) : Bool → So → List Addr → Hp → Prop := fun b _ _ H' => Q b H'
def kA (G : Gs) (Q : List V → Hp → Prop) : List D → So → List Addr → Hp → Prop := fun ds _ β' H' => ∀ vs, RDs G.K β' H' vs ds → Q vs H'
def kS (G : Gs) (D : Ends) : Fl × Ro → So → List Addr → Hp → Prop := fun p _ β' H' => match p.1 with
  | .nx => ∀ σ', RVs G β' H' σ' p.2 → D.nx σ' H'
  | .bk => ∀ σ', RVs G β' H' σ' p.2 → D.bk σ' H'
  | .ct => ∀ σ', RVs G β' H' σ' p.2 → D.ct σ' H'
  | .rt d => ∀ v, RD G.K β' H' v d → D.rt v H'
def tM (G : Gs) (W : WX) (m : ME) : TE := fun σ H Q => ∃ β ρ S, Rl G.K G.cl β S H ∧ RVs G β H σ ρ ∧ Gd G W β H (m ρ S) (kV G Q)
def tT (G : Gs) (W : WX) (m : MT) : TT := fun σ H Q => ∃ β ρ S, Rl G.K G.cl β S H ∧ RVs G β H σ ρ ∧ Gd G W β H (m ρ S) (kT Q)
def tA (G : Gs) (W : WX) (m : MA) : TA := fun σ H Q => ∃ β ρ S, Rl G.K G.cl β S H ∧ RVs G β H σ ρ ∧ Gd G W β H (m ρ S) (kA G Q)
def sM (G : Gs) (W : WX) (m : MS) : TS := fun D σ H => ∃ β ρ S, Rl G.K G.cl β S H ∧ RVs G β H σ ρ ∧ Gd G W β H (m ρ S) (kS G D)
def Gs.out (G : Gs) : Gs := { K := G.K, cl := G.cl }
def spM (K : PySem.W.Frag) (cl : Str → Option Addr) (n : Nat) (m : MF) : Sp := fun vs H Q E => ∃ β ds S, Rl K cl β S H ∧ RDs K β H vs ds ∧ ds.length = n ∧
  Gd { K := K, cl := cl } (fun cls d _ H' => E cls d H') β H (m ds S) (kV { K := K, cl := cl } Q)

section
variable {X : Cx} {G : Gs} {W : WX}
theorem pe_imp {e : Expr} {t t' : TE} (h : PE X e t) (hi : ∀ σ H Q, t' σ H Q → t σ H Q) : PE X e t' := ⟨fun pins s σ H Q I q => h.run pins s σ H Q I (hi σ H Q q)⟩
theorem pt_imp {e : Expr} {t t' : TT} (h : PT X e t) (hi : ∀ σ H Q, t' σ H Q → t σ H Q) : PT X e t' := ⟨fun pins s σ H Q I q => h.run pins s σ H Q I (hi σ H Q q)⟩
theorem pw_imp {e : Expr} {t t' : TT} (h : PW X e t) (hi : ∀ σ H Q, t' σ H Q → t σ H Q) : PW X e t' := ⟨fun wh pins s σ H Q I q => h.run wh pins s σ H Q I (hi σ H Q q)⟩
theorem pa_imp {e : List Expr} {t t' : TA} (h : PA X e t) (hi : ∀ σ H Q, t' σ H Q → t σ H Q) : PA X e t' := ⟨fun p pins s σ H Q I q => h.run p pins s σ H Q I (hi σ H Q q)⟩
theorem ps_imp {e : Stmt} {t t' : TS} (h : PS X e t) (hi : ∀ D σ H, t' D σ H → t D σ H) : PS X e t' := ⟨fun pins s σ H D I q => h.run pins s σ H D I (hi D σ H q)⟩
theorem pss_imp {e : List Stmt} {t t' : TS} (h : PSs X e t) (hi : ∀ D σ H, t' D σ H → t D σ H) : PSs X e t' := ⟨fun pins s σ H D I q => h.run pins s σ H D I (hi D σ H q)⟩

/-! ### names, constants -/
def mVar (i : Nat) : ME := fun ρ S => match ρ[i]? with
  | some (some d) => .ok d S
  | _ => .stuck
def mC (d : D) : ME := fun _ S => .ok d S
theorem tM_var {i : Nat} {σ : Sl} {H : Hp} {Q : VK} (h : tM G W (mVar i) σ H Q) : tVar i σ H Q := by
  obtain ⟨β, ρ, S, R, V, h⟩ := h
  unfold mVar at h
  split at h
  · rename_i d e
    obtain ⟨v, h1, h2⟩ := V.slot i d e
    exact ⟨v, h1, h β H Ex.refl R v h2⟩
  · exact h.elim
theorem ce_var (i : Nat) {x : Str} {pos : Pos} (hN : X.N[i]? = some x := by rfl) (hv : Vis X.env.scope x := by first | exact Or.inl rfl | exact Or.inr (Or.inl rfl) | exact Or.inr (Or.inr rfl)) (hd : (x == ("__debug__" : Str)) = false := by decide)
    (hcd : (x == ("__classdict__" : Str)) = false := by decide) : PE X (.Name x pos) (tM G W (mVar i)) := pe_imp (pe_var hN hv hd hcd) fun _ _ _ h => tM_var h
theorem tM_c {v : V} {d : D} (hr : ∀ (β : List Addr) (H : Hp), RD G.K β H v d) {σ : Sl} {H : Hp} {Q : VK} (h : tM G W (mC d) σ H Q) : tC v σ H Q := by
  obtain ⟨β, ρ, S, R, V, h⟩ := h
  exact h β H Ex.refl R v (hr β H)
theorem ce_int {i : Int} {j pos} : PE X (.Constant (.int i) j pos) (tM G W (mC (.int i))) := pe_imp pe_int fun _ _ _ h => tM_c (fun _ _ => .int i) h
theorem ce_bl {b : Bool} {j pos} : PE X (.Constant (.bool b) j pos) (tM G W (mC (.bl b))) := pe_imp pe_bl fun _ _ _ h => tM_c (fun _ _ => .bl b) h
theorem ce_non {j pos} : PE X (.Constant .none j pos) (tM G W (mC .non)) := pe_imp pe_non fun _ _ _ h => tM_c (fun _ _ => .non) h
theorem ce_str {x : Str} {j pos} : PE X (.Constant (.str x) j pos) (tM G W (mC (.str x))) := pe_imp pe_str fun _ _ _ h => tM_c (fun _ _ => .str x) h
/-- a module's constant -/
theorem ce_glob {x : Str} {v : V} {u : Value} {d : D} {pos : Pos} (hm : X.mg x = some u) (r : RelV v u) (hr : ∀ (β : List Addr) (H : Hp), RD G.K β H v d) (hg : Gl X x := by rfl) (hd : (x == ("__debug__" : Str)) = false := by decide) :
    PE X (.Name x pos) (tM G W (mC d)) := pe_imp (pe_glob hg hm r hd) fun _ _ _ h => tM_c hr h

/-! ### operators -/
def m2 (f : D → D → So → Rs D) (ma mb : ME) : ME := fun ρ S => (ma ρ S).bind fun d S1 => (mb ρ S1).bind fun e S2 => f d e S2
def m1 (f : D → So → Rs D) (ma : ME) : ME := fun ρ S => (ma ρ S).bind fun d S1 => f d S1
/-- a two-place operation on abstract values against its reading -/
def OpM (G : Gs) (f : D → D → So → Rs D) (r : R2) : Prop := ∀ (W : WX) (β : List Addr) (S : So) (H : Hp) (x y : V) (d e : D) (Q : VK), Rl G.K G.cl β S H → RD G.K β H x d → RD G.K β H y e →
  Gd G W β H (f d e S) (kV G Q) → r x y H Q
def UnM (G : Gs) (f : D → So → Rs D) (r : V → Hp → VK → Prop) : Prop := ∀ (W : WX) (β : List Addr) (S : So) (H : Hp) (x : V) (d : D) (Q : VK), Rl G.K G.cl β S H → RD G.K β H x d →
  Gd G W β H (f d S) (kV G Q) → r x H Q
theorem tM_op {r : R2} {f : D → D → So → Rs D} {ma mb : ME} (hm : OpM G f r) {σ : Sl} {H : Hp} {Q : VK} (h : tM G W (m2 f ma mb) σ H Q) : tOp r (tM G W ma) (tM G W mb) σ H Q := by
  obtain ⟨β, ρ, S, R, V, h⟩ := h
  refine ⟨β, ρ, S, R, V, h.bind.imp fun d S1 β1 H1 e1 R1 h1 x rx => ?_⟩
  refine ⟨β1, ρ, S1, R1, V.mono e1, h1.bind.imp fun d2 S2 β2 H2 e2 R2 h2 y ry => ?_⟩
  exact hm W β2 S2 H2 x y d d2 Q R2 (rx.mono e2) ry h2
theorem tM_un {r : V → Hp → VK → Prop} {f : D → So → Rs D} {ma : ME} (hm : UnM G f r) {σ : Sl} {H : Hp} {Q : VK} (h : tM G W (m1 f ma) σ H Q) : tUn r (tM G W ma) σ H Q := by
  obtain ⟨β, ρ, S, R, V, h⟩ := h
  refine ⟨β, ρ, S, R, V, h.bind.imp fun d S1 β1 H1 e1 R1 h1 x rx => ?_⟩
  exact hm W β1 S1 H1 x d Q R1 rx h1
variable {a b : Expr} {ma mb : ME} {pos : Pos}
theorem ce_op {op : Operator} {r : R2} {f : D → D → So → Rs D} (ho : OpR X (binaryOp op) r) (hm : OpM G f r) (ha : PE X a (tM G W ma)) (hb : PE X b (tM G W mb)) : PE X (.BinOp a op b pos) (tM G W (m2 f ma mb)) :=
  pe_imp (pe_op ho ha hb) fun _ _ _ h => tM_op hm h
theorem ce_un {op : UnaryOp} {r : V → Hp → VK → Prop} {f : D → So → Rs D} (ho : UnR X (unaryOp op) r) (hm : UnM G f r) (ha : PE X a (tM G W ma)) : PE X (.UnaryOp op a pos) (tM G W (m1 f ma)) :=
  pe_imp (pe_un ho ha) fun _ _ _ h => tM_un hm h
theorem ce_cmp {op : CmpOp} {r : R2} {f : D → D → So → Rs D} (ho : OpR X (compareOp op) r) (hm : OpM G f r) (ha : PE X a (tM G W ma)) (hb : PE X b (tM G W mb)) (hk : behindInMarks op b = false) : PE X (.Compare a [op] [b] pos) (tM G W (m2 f ma mb)) :=
  pe_imp (pe_cmpR ho ha hb hk) fun _ _ _ h => tM_op hm h
end
end Mi
namespace Mi
open PySem PySem.Spec PyProof.Rows L2
/-- the greatest size of a text, a list, a tuple that a mirror makes -/
def lim : Nat := 100000
theorem lim_line : lim < sizeLine := by rw [sizeLine_eq]; decide
theorem lim_le {n : Nat} (h : n ≤ lim) : n ≤ sizeLine := Nat.le_trans h (Nat.le_of_lt lim_line)

/-! ### + - * // % ** -/
def addD : D → D → So → Rs D
  | .int i, .int j, S => .ok (.int (i + j)) S
  | .str x, .str y, S => if x.length + y.length ≤ lim then .ok (.str (x ++ y)) S else .stuck
  | .tup xs, .tup ys, S => if xs.length + ys.length ≤ lim then .ok (.tup (xs ++ ys)) S else .stuck
  | .ref m, .ref n, S => match S[m]?, S[n]? with
    | some (.lst xs), some (.lst ys) => if xs.length + ys.length ≤ lim then .ok (.ref S.length) (S ++ [.lst (xs ++ ys)]) else .stuck
    | _, _ => .stuck
  | _, _, _ => .stuck
def intOp (f : Int → Int → Option D) : D → D → So → Rs D
  | .int i, .int j, S => match f i j with
    | some d => .ok d S
    | none => .stuck
  | _, _, _ => .stuck
def subD : D → D → So → Rs D := intOp fun i j => some (.int (i - j))
def fdivD : D → D → So → Rs D := intOp fun i j => if j ≠ 0 ∧ j.natAbs < 1073741824 then some (.int (i.fdiv j)) else none
def modD : D → D → So → Rs D := intOp fun i j => if j ≠ 0 then some (.int (i.fmod j)) else none
def powD : D → D → So → Rs D := intOp fun i j => if 0 ≤ j ∧ j ≤ 1000000 ∧ i.natAbs < 2 ^ 64 then some (.int (i ^ j.toNat)) else none
def mulD : D → D → So → Rs D
  | .int i, .int j, S => if (-(2 ^ 64) < i ∧ i < 2 ^ 64) ∨ (-(2 ^ 64) < j ∧ j < 2 ^ 64) then .ok (.int (i * j)) S else .stuck
  | .tup xs, .int k, S => if xs ≠ [] ∧ 2 ≤ k ∧ k ≤ 1000 ∧ xs.length ≤ 1000 then .ok (.tup (List.replicate k.toNat xs).flatten) S else .stuck
  | _, _, _ => .stuck
def ltD : D → D → So → Rs D := intOp fun i j => some (.bl (decide (i < j)))
def leD : D → D → So → Rs D := intOp fun i j => some (.bl (decide (i ≤ j)))
def gtD : D → D → So → Rs D := intOp fun i j => some (.bl (decide (j < i)))
def geD : D → D → So → Rs D := intOp fun i j => some (.bl (decide (j ≤ i)))
def negD : D → So → Rs D
  | .int i, S => .ok (.int (-i)) S
  | _, _ => .stuck
section
variable {X : Cx} {G : Gs}
theorem RD.int_inv {K : PySem.W.Frag} {β : List Addr} {H : Hp} {v : V} {i : Int} (h : RD K β H v (.int i)) : v = .int i := by cases h; rfl
theorem opM_int {f : Int → Int → Option D} {g : Int → Int → V} {C : Int → Int → Prop} (hf : ∀ i j d, f i j = some d → C i j ∧ ∀ (β : List Addr) (H : Hp), RD G.K β H (g i j) d) : OpM G (intOp f) (rI C g) := by
  intro W β S H x y d e Q R rx ry h
  unfold intOp at h
  split at h
  · rename_i i j
    cases rx
    cases ry
    split at h
    · rename_i d hd
      obtain ⟨hc, hr⟩ := hf _ _ _ hd
      exact ⟨i, j, rfl, rfl, hc, h β H Ex.refl R _ (hr β H)⟩
    · exact h.elim
  · exact h.elim
theorem opM_int0 {f : Int → Int → Option D} {g : Int → Int → V} (hf : ∀ i j d, f i j = some d → ∀ (β : List Addr) (H : Hp), RD G.K β H (g i j) d) : OpM G (intOp f) (rI0 g) := by
  intro W β S H x y d e Q R rx ry h
  unfold intOp at h
  split at h
  · rename_i i j
    cases rx
    cases ry
    split at h
    · rename_i d hd
      exact ⟨i, j, rfl, rfl, h β H Ex.refl R _ (hf _ _ _ hd β H)⟩
    · exact h.elim
  · exact h.elim
theorem om_sub : OpM G subD (rI0 fun i j => .int (i - j)) := opM_int0 fun i j d h β H => by cases h; exact .int _
theorem om_fdiv : OpM G fdivD (rI CDivN fun i j => .int (i.fdiv j)) := opM_int fun i j d h => by
  split at h
  · rename_i hc
    cases h
    exact ⟨hc, fun β H => .int _⟩
  · cases h
theorem om_mod : OpM G modD (rI (fun _ j => j ≠ 0) fun i j => .int (i.fmod j)) := opM_int fun i j d h => by
  split at h
  · rename_i hc
    cases h
    exact ⟨hc, fun β H => .int _⟩
  · cases h
theorem om_pow : OpM G powD (rI CPow fun i j => .int (i ^ j.toNat)) := opM_int fun i j d h => by
  split at h
  · rename_i hc
    cases h
    exact ⟨hc, fun β H => .int _⟩
  · cases h
theorem om_lt : OpM G ltD (rI0 fun i j => .bl (decide (i < j))) := opM_int0 fun i j d h β H => by cases h; exact .bl _
theorem om_le : OpM G leD (rI0 fun i j => .bl (decide (i ≤ j))) := opM_int0 fun i j d h β H => by cases h; exact .bl _
theorem om_gt : OpM G gtD (rI0 fun i j => .bl (decide (j < i))) := opM_int0 fun i j d h β H => by cases h; exact .bl _
theorem om_ge : OpM G geD (rI0 fun i j => .bl (decide (j ≤ i))) := opM_int0 fun i j d h β H => by cases h; exact .bl _
theorem um_neg : UnM G negD (rU fun i => .int (-i)) := by
  intro W β S H x d Q R rx h
  unfold negD at h
  split at h
  · cases rx
    exact ⟨_, rfl, h β H Ex.refl R _ (.int _)⟩
  · exact h.elim
theorem flat_rep {K : PySem.W.Frag} {β : List Addr} {H : Hp} {xs : List V} {ds : List D} (r : RDs K β H xs ds) : ∀ k : Nat, RDs K β H (List.replicate k xs).flatten (List.replicate k ds).flatten
  | 0 => .nil
  | k + 1 => by
    rw [List.replicate_succ, List.replicate_succ, List.flatten_cons, List.flatten_cons]
    exact r.append (flat_rep r k)
theorem om_mul : OpM G mulD (fun x y H Q => rI CMul (fun i j => .int (i * j)) x y H Q ∨ rRepT G.K x y H Q) := by
  intro W β S H x y d e Q R rx ry h
  unfold mulD at h
  split at h
  · rename_i i j
    cases rx
    cases ry
    split at h
    · rename_i hc
      exact .inl ⟨i, j, rfl, rfl, hc, h β H Ex.refl R _ (.int _)⟩
    · exact h.elim
  · rename_i ds k
    cases rx with
    | tup hq hs =>
      cases ry
      split at h
      · rename_i hc
        rename_i l xs
        have hl := hs.length
        refine .inr ⟨l, k, xs, rfl, rfl, hq, ?_, hc.2.1, hc.2.2.1, by rw [hl]; exact hc.2.2.2, fun p hp => ?_⟩
        · rintro rfl
          cases hs
          exact hc.1 rfl
        · exact h _ _ (Ex.fresh hp) (R.fresh hp) _ (.tup (.inl (.inl upd_same)) ((flat_rep hs _).mono (Ex.fresh hp).toEw))
      · exact h.elim
  · exact h.elim
theorem oo_mul : OpR X (binaryOp .Mult) (fun x y H Q => rI CMul (fun i j => .int (i * j)) x y H Q ∨ rRepT X.K x y H Q) := op_mul.or op_repT
/-- + on ints, texts, tuples, lists -/
def rAddM (K : PySem.W.Frag) : R2 := fun x y H Q => (rI0 (fun i j => .int (i + j)) x y H Q) ∨ ((∃ i j, x = .str i ∧ y = .str j ∧ i.length + j.length ≤ sizeLine ∧ Q (.str (i ++ j)) H) ∨ (rCatA K x y H Q ∨ rCat x y H Q))
theorem oo_add : OpR X (binaryOp .Add) (rAddM X.K) := op_add.or (op_add_str.or (op_catA.or op_cat))
theorem om_add : OpM G addD (rAddM G.K) := by
  intro W β S H x y d e Q R rx ry h
  unfold addD at h
  split at h
  · cases rx
    cases ry
    exact .inl ⟨_, _, rfl, rfl, h β H Ex.refl R _ (.int _)⟩
  · cases rx
    cases ry
    split at h
    · rename_i hc
      exact .inr (.inl ⟨_, _, rfl, rfl, lim_le hc, h β H Ex.refl R _ (.str _)⟩)
    · exact h.elim
  · cases rx with
    | tup hq hs =>
      cases ry with
      | tup hq2 hs2 =>
        split at h
        · rename_i hc
          refine .inr (.inr (.inl ⟨_, _, _, _, rfl, rfl, hq, hq2, by rw [hs.length, hs2.length]; exact lim_le hc, ?_, ?_, ?_⟩))
          · rintro rfl
            cases hs
            exact h β H Ex.refl R _ (.tup hq2 hs2)
          · rintro _ rfl
            cases hs2
            exact h β H Ex.refl R _ (by rw [List.append_nil]; exact .tup hq hs)
          · intro _ _ p hp
            exact h _ _ (Ex.fresh hp) (R.fresh hp) _ (.tup (.inl (.inl upd_same)) ((hs.append hs2).mono (Ex.fresh hp).toEw))
        · exact h.elim
  · rename_i m n
    cases rx with
    | ref h1 =>
      cases ry with
      | ref h2 =>
        split at h
        · rename_i xs ys e1 e2
          split at h
          · rename_i hc
            obtain ⟨us, q1, r1⟩ := R.get e1 h1
            obtain ⟨ws, q2, r2⟩ := R.get e2 h2
            refine .inr (.inr (.inr ⟨_, _, us, ws, rfl, rfl, q1, q2, by rw [r1.length, r2.length]; exact lim_le hc, fun p hp => ?_⟩))
            refine h (β ++ [p]) _ (Ex.new hp) (R.new hp ⟨_, upd_same, (r1.append r2).mono (Ex.new hp).toEw⟩) _ (.ref ?_)
            rw [List.getElem?_append_right (by rw [R.len]; exact Nat.le_refl _), R.len]
            simp
          · exact h.elim
        · exact h.elim
  · exact h.elim

/-! ### tests -/
def asB : D → So → Rs Bool
  | .bl b, S => .ok b S
  | _, _ => .stuck
def mB (m : ME) : MT := fun ρ S => (m ρ S).bind asB
variable {W : WX} {ma mb : ME} {mt mu : MT} {a b : Expr} {pos : Pos}
theorem kB {β : List Addr} {H : Hp} {d : D} {S : So} {Q : Bool → Hp → Prop} (R : Rl G.K G.cl β S H) {x : V} (rx : RD G.K β H x d) (h : Gd G W β H (asB d S) (kT Q)) : ∃ c, x = .bl c ∧ Q c H := by
  unfold asB at h
  split at h
  · cases rx
    exact ⟨_, rfl, h β H Ex.refl R⟩
  · exact h.elim
theorem tM_B {m : ME} {σ : Sl} {H : Hp} {Q : Bool → Hp → Prop} (h : tT G W (mB m) σ H Q) : tM G W m σ H fun x H1 => ∃ c, x = .bl c ∧ Q c H1 := by
  obtain ⟨β, ρ, S, R, V, h⟩ := h
  exact ⟨β, ρ, S, R, V, h.bind.imp fun d S1 β1 H1 e1 R1 h1 x rx => kB R1 rx h1⟩
/-- an expression whose value is a bool, as a test -/
theorem ct_val {e : Expr} {m : ME} (h : PE X e (tM G W m)) (he : ∀ whole, isTrue e X.env whole = (do let v ← whole; standAt e.pos; holding [v] (truthy v)) := by intro _; rfl) : PT X e (tT G W (mB m)) :=
  pt_imp (pt_val h he) fun _ _ _ h => tM_B h
/-- a comparison as a test -/
theorem ct_cmp {op : CmpOp} {r : R2} {f : D → D → So → Rs D} (ho : OpR X (compareOp op) r) (hm : OpM G f r) (ha : PE X a (tM G W ma)) (hb : PE X b (tM G W mb)) (hk : behindInMarks op b = false) : PT X (.Compare a [op] [b] pos) (tT G W (mB (m2 f ma mb))) := by
  refine pt_imp (pt_cmpR ho ha hb hk) fun σ H Q h => ?_
  have := tM_op hm (tM_B h)
  exact this
def mAnd (mt mu : MT) : MT := fun ρ S => (mt ρ S).bind fun c S1 => if c then mu ρ S1 else .ok false S1
def mOr (mt mu : MT) : MT := fun ρ S => (mt ρ S).bind fun c S1 => if c then .ok true S1 else mu ρ S1
def mNot (mt : MT) : MT := fun ρ S => (mt ρ S).bind fun c S1 => .ok (!c) S1
theorem tT_and {σ : Sl} {H : Hp} {Q : Bool → Hp → Prop} (h : tT G W (mAnd mt mu) σ H Q) : tAnd (tT G W mt) (tT G W mu) σ H Q := by
  obtain ⟨β, ρ, S, R, V, h⟩ := h
  refine ⟨β, ρ, S, R, V, h.bind.imp fun c S1 β1 H1 e1 R1 h1 => ?_⟩
  cases c with
  | true => exact ⟨β1, ρ, S1, R1, V.mono e1, h1⟩
  | false => exact h1 β1 H1 Ex.refl R1
theorem tT_or {σ : Sl} {H : Hp} {Q : Bool → Hp → Prop} (h : tT G W (mOr mt mu) σ H Q) : tOr (tT G W mt) (tT G W mu) σ H Q := by
  obtain ⟨β, ρ, S, R, V, h⟩ := h
  refine ⟨β, ρ, S, R, V, h.bind.imp fun c S1 β1 H1 e1 R1 h1 => ?_⟩
  cases c with
  | true => exact h1 β1 H1 Ex.refl R1
  | false => exact ⟨β1, ρ, S1, R1, V.mono e1, h1⟩
theorem tT_not {σ : Sl} {H : Hp} {Q : Bool → Hp → Prop} (h : tT G W (mNot mt) σ H Q) : tNot (tT G W mt) σ H Q := by
  obtain ⟨β, ρ, S, R, V, h⟩ := h
  exact ⟨β, ρ, S, R, V, h.bind.imp fun c S1 β1 H1 e1 R1 h1 => h1 β1 H1 Ex.refl R1⟩
theorem cw_and1 (ha : PT X a (tT G W mt)) : PW X (.BoolOp .And [a] pos) (tT G W mt) := pw_and1 ha
theorem cw_or1 (ha : PT X a (tT G W mt)) : PW X (.BoolOp .Or [a] pos) (tT G W mt) := pw_or1 ha
theorem cw_and {rest : List Expr} (ha : PT X a (tT G W mt)) (hb : PW X (.BoolOp .And (b :: rest) pos) (tT G W mu)) : PW X (.BoolOp .And (a :: b :: rest) pos) (tT G W (mAnd mt mu)) := pw_imp (pw_and ha hb) fun _ _ _ h => tT_and h
theorem cw_or {rest : List Expr} (ha : PT X a (tT G W mt)) (hb : PW X (.BoolOp .Or (b :: rest) pos) (tT G W mu)) : PW X (.BoolOp .Or (a :: b :: rest) pos) (tT G W (mOr mt mu)) := pw_imp (pw_or ha hb) fun _ _ _ h => tT_or h
theorem ct_not (ha : PT X a (tT G W mt)) : PT X (.UnaryOp .Not a pos) (tT G W (mNot mt)) := pt_imp (pt_not ha) fun _ _ _ h => tT_not h
/-- and, or, not as values (bools) -/
def mAndV (ma mb : ME) : ME := fun ρ S => (ma ρ S).bind fun c S1 => match c with
  | .bl true => mb ρ S1
  | .bl false => .ok (.bl false) S1
  | _ => .stuck
def mOrV (ma mb : ME) : ME := fun ρ S => (ma ρ S).bind fun c S1 => match c with
  | .bl true => .ok (.bl true) S1
  | .bl false => mb ρ S1
  | _ => .stuck
def notD : D → So → Rs D
  | .bl b, S => .ok (.bl (!b)) S
  | _, _ => .stuck
def mNotV (ma : ME) : ME := m1 notD ma
theorem tM_andV {σ : Sl} {H : Hp} {Q : VK} (h : tM G W (mAndV ma mb) σ H Q) : tAndV (tM G W ma) (tM G W mb) σ H Q := by
  obtain ⟨β, ρ, S, R, V, h⟩ := h
  refine ⟨β, ρ, S, R, V, h.bind.imp fun c S1 β1 H1 e1 R1 h1 x rx => ?_⟩
  split at h1
  · cases rx
    exact ⟨true, rfl, ⟨β1, ρ, S1, R1, V.mono e1, h1⟩⟩
  · cases rx
    exact ⟨false, rfl, h1 β1 H1 Ex.refl R1 _ (.bl _)⟩
  · exact h1.elim
theorem tM_orV {σ : Sl} {H : Hp} {Q : VK} (h : tM G W (mOrV ma mb) σ H Q) : tOrV (tM G W ma) (tM G W mb) σ H Q := by
  obtain ⟨β, ρ, S, R, V, h⟩ := h
  refine ⟨β, ρ, S, R, V, h.bind.imp fun c S1 β1 H1 e1 R1 h1 x rx => ?_⟩
  split at h1
  · cases rx
    exact ⟨true, rfl, h1 β1 H1 Ex.refl R1 _ (.bl _)⟩
  · cases rx
    exact ⟨false, rfl, ⟨β1, ρ, S1, R1, V.mono e1, h1⟩⟩
  · exact h1.elim
theorem ce_one {op : BoolOp} {m : ME} (h : PE X a (tM G W m)) : PE X (.BoolOp op [a] pos) (tM G W m) := pe_one h
theorem ce_and {rest : List Expr} (ha : PE X a (tM G W ma)) (hb : PE X (.BoolOp .And (b :: rest) pos) (tM G W mb)) : PE X (.BoolOp .And (a :: b :: rest) pos) (tM G W (mAndV ma mb)) := pe_imp (pe_and ha hb) fun _ _ _ h => tM_andV h
theorem ce_or {rest : List Expr} (ha : PE X a (tM G W ma)) (hb : PE X (.BoolOp .Or (b :: rest) pos) (tM G W mb)) : PE X (.BoolOp .Or (a :: b :: rest) pos) (tM G W (mOrV ma mb)) := pe_imp (pe_or ha hb) fun _ _ _ h => tM_orV h
theorem ce_not (ha : PE X a (tM G W ma)) : PE X (.UnaryOp .Not a pos) (tM G W (mNotV ma)) := by
  refine pe_imp (pe_not ha) fun σ H Q h => ?_
  obtain ⟨β, ρ, S, R, V, h⟩ := h
  refine ⟨β, ρ, S, R, V, h.bind.imp fun d S1 β1 H1 e1 R1 h1 x rx => ?_⟩
  unfold notD at h1
  split at h1
  · cases rx
    exact ⟨_, rfl, h1 β1 H1 Ex.refl R1 _ (.bl _)⟩
  · exact h1.elim
def mIte (mt : MT) (ma mb : ME) : ME := fun ρ S => (mt ρ S).bind fun c S1 => if c then ma ρ S1 else mb ρ S1
theorem ce_ifExp {c : Expr} (hc : PT X c (tT G W mt)) (ha : PE X a (tM G W ma)) (hb : PE X b (tM G W mb)) : PE X (.IfExp c a b pos) (tM G W (mIte mt ma mb)) := by
  refine pe_imp (pe_ifExp hc ha hb) fun σ H Q h => ?_
  obtain ⟨β, ρ, S, R, V, h⟩ := h
  refine ⟨β, ρ, S, R, V, h.bind.imp fun c S1 β1 H1 e1 R1 h1 => ?_⟩
  cases c with
  | true => exact ⟨β1, ρ, S1, R1, V.mono e1, h1⟩
  | false => exact ⟨β1, ρ, S1, R1, V.mono e1, h1⟩
/-- is None -/
def isND : D → So → Rs D
  | .non, S => .ok (.bl true) S
  | _, S => .ok (.bl false) S
def notND : D → So → Rs D
  | .non, S => .ok (.bl false) S
  | _, S => .ok (.bl true) S
theorem RD.non_iff {K : PySem.W.Frag} {β : List Addr} {H : Hp} {v : V} {d : D} (h : RD K β H v d) : decide (v = .non) = (match d with | .non => true | _ => false) := by
  cases h <;> simp
theorem ce_isN {m : ME} {j pos'} (ha : PE X a (tM G W m)) : PE X (.Compare a [.Is] [.Constant .none j pos'] pos) (tM G W (m1 isND m)) := by
  refine pe_imp (pe_cmp (pc_isN ha)) fun σ H Q h => ?_
  obtain ⟨β, ρ, S, R, V, h⟩ := h
  refine ⟨β, ρ, S, R, V, h.bind.imp fun d S1 β1 H1 e1 R1 h1 x rx => ?_⟩
  show Q (.bl (decide (x = .non))) H1
  rw [rx.non_iff]
  cases d <;> exact h1 β1 H1 Ex.refl R1 _ (.bl _)
theorem ce_notN {m : ME} {j pos'} (ha : PE X a (tM G W m)) : PE X (.Compare a [.IsNot] [.Constant .none j pos'] pos) (tM G W (m1 notND m)) := by
  refine pe_imp (pe_cmp (pc_notN ha)) fun σ H Q h => ?_
  obtain ⟨β, ρ, S, R, V, h⟩ := h
  refine ⟨β, ρ, S, R, V, h.bind.imp fun d S1 β1 H1 e1 R1 h1 x rx => ?_⟩
  show Q (.bl (!decide (x = .non))) H1
  rw [rx.non_iff]
  cases d <;> exact h1 β1 H1 Ex.refl R1 _ (.bl _)
theorem ct_isN {m : ME} {j pos'} (ha : PE X a (tM G W m)) : PT X (.Compare a [.Is] [.Constant .none j pos'] pos) (tT G W (mB (m1 isND m))) := by
  refine pt_imp (pt_cmp (pc_isN ha)) fun σ H Q h => ?_
  obtain ⟨β, ρ, S, R, V, h⟩ := tM_B h
  refine ⟨β, ρ, S, R, V, h.bind.imp fun d S1 β1 H1 e1 R1 h1 x rx => ?_⟩
  show ∃ c, L2.V.bl (decide (x = .non)) = L2.V.bl c ∧ Q c H1
  rw [rx.non_iff]
  cases d <;> exact h1 β1 H1 Ex.refl R1 _ (.bl _)
theorem ct_notN {m : ME} {j pos'} (ha : PE X a (tM G W m)) : PT X (.Compare a [.IsNot] [.Constant .none j pos'] pos) (tT G W (mB (m1 notND m))) := by
  refine pt_imp (pt_cmp (pc_notN ha)) fun σ H Q h => ?_
  obtain ⟨β, ρ, S, R, V, h⟩ := tM_B h
  refine ⟨β, ρ, S, R, V, h.bind.imp fun d S1 β1 H1 e1 R1 h1 x rx => ?_⟩
  show ∃ c, L2.V.bl (!decide (x = .non)) = L2.V.bl c ∧ Q c H1
  rw [rx.non_iff]
  cases d <;> exact h1 β1 H1 Ex.refl R1 _ (.bl _)
/-- a < b < c -/
def mChain (f g : D → D → So → Rs D) (ma mb mc : ME) : ME := fun ρ S => (ma ρ S).bind fun d S1 => (mb ρ S1).bind fun e S2 => (f d e S2).bind fun z S3 => match z with
  | .bl true => (mc ρ S3).bind fun u S4 => g e u S4
  | .bl false => .ok (.bl false) S3
  | _ => .stuck
theorem tM_chain {f g : D → D → So → Rs D} {r r' : R2} {mc : ME} (hm : OpM G f r) (hm' : OpM G g r') {σ : Sl} {H : Hp} {Q : VK} (h : tM G W (mChain f g ma mb mc) σ H Q) : tChain r r' (tM G W ma) (tM G W mb) (tM G W mc) σ H Q := by
  obtain ⟨β, ρ, S, R, V, h⟩ := h
  refine ⟨β, ρ, S, R, V, h.bind.imp fun d S1 β1 H1 e1 R1 h1 x rx => ?_⟩
  refine ⟨β1, ρ, S1, R1, V.mono e1, h1.bind.imp fun d2 S2 β2 H2 e2 R2 h2 y ry => ?_⟩
  refine hm W β2 S2 H2 x y d d2 _ R2 (rx.mono e2) ry (h2.bind.imp fun z S3 β3 H3 e3 R3 h3 v rv => ?_)
  split at h3
  · cases rv
    refine ⟨true, rfl, ?_⟩
    show tM G W mc σ H3 _
    refine ⟨β3, ρ, S3, R3, V.mono (e1.trans (e2.trans e3)), h3.bind.imp fun u S4 β4 H4 e4 R4 h4 w rw' => ?_⟩
    exact hm' W β4 S4 H4 y w d2 u Q R4 (ry.mono (e3.trans e4)) rw' h4
  · cases rv
    exact ⟨false, rfl, h3 β3 H3 Ex.refl R3 _ (.bl _)⟩
  · exact h3.elim
theorem ce_chain {op op' : CmpOp} {c : Expr} {mc : ME} {f g : D → D → So → Rs D} {r r' : R2} (ho : OpR X (compareOp op) r) (ho' : OpR X (compareOp op') r') (hm : OpM G f r) (hm' : OpM G g r') (ha : PE X a (tM G W ma)) (hb : PE X b (tM G W mb)) (hc : PE X c (tM G W mc))
    (hk : lastMarks [op, op'] [b, c] = false := by with_unfolding_all rfl) : PE X (.Compare a [op, op'] [b, c] pos) (tM G W (mChain f g ma mb mc)) := pe_imp (pe_chain ho ho' ha hb hc hk) fun _ _ _ h => tM_chain hm hm' h
theorem ct_chain {op op' : CmpOp} {c : Expr} {mc : ME} {f g : D → D → So → Rs D} {r r' : R2} (ho : OpR X (compareOp op) r) (ho' : OpR X (compareOp op') r') (hm : OpM G f r) (hm' : OpM G g r') (ha : PE X a (tM G W ma)) (hb : PE X b (tM G W mb)) (hc : PE X c (tM G W mc))
    (hk : lastMarks [op, op'] [b, c] = false := by with_unfolding_all rfl) : PT X (.Compare a [op, op'] [b, c] pos) (tT G W (mB (mChain f g ma mb mc))) := by
  refine pt_imp (pt_chain ho ho' ha hb hc hk) fun σ H Q h => ?_
  exact tM_chain hm hm' (tM_B h)
end
end Mi
namespace Mi
open PySem PySem.Spec PyProof.Rows L2
/-! ### == and != over data -/
/-- what a value looks like -/
inductive Vw where
  | non | bl (b : Bool) | int (i : Int) | str (x : Str) | tup (ds : List D) | lst (ds : List D) | dct (kvs : List (Key × D)) | oth
def vw (S : So) : D → Vw
  | .non => .non
  | .bl b => .bl b
  | .int i => .int i
  | .str x => .str x
  | .tup ds => .tup ds
  | .frl ds => .lst ds
  | .ref n => match S[n]? with
    | some (.lst ds) => .lst ds
    | some (.dct kvs) => .dct kvs
    | _ => .oth
def eqL (f : D → D → Option Bool) : List D → List D → Option Bool
  | [], [] => some true
  | [], _ :: _ => some false
  | _ :: _, [] => some false
  | x :: xs, y :: ys => match f x y, eqL f xs ys with
    | some a, some b => some (a && b)
    | _, _ => none
def valD (kvs : List (Key × D)) (k : Key) : Option D := (kvs.find? fun kv => decide (kv.1 = k)).map (·.2)
def eqK (f : D → D → Option Bool) (ls : List (Key × D)) : List (Key × D) → Option Bool
  | [] => some true
  | (k, x) :: r => match valD ls k with
    | none => (eqK f ls r).map fun _ => false
    | some y => match f x y, eqK f ls r with
      | some a, some b => some (a && b)
      | _, _ => none
def eqW (dk : Bool) (f : D → D → Option Bool) : Vw → Vw → Option Bool
  | .tup xs, .tup ys => eqL f xs ys
  | .lst xs, .lst ys => eqL f xs ys
  | .dct ks, .dct ls => if dk then (eqK f ls ks).map fun b => (ks.length == ls.length && b) else none
  | .non, .non => some true
  | .non, .bl _ => some false
  | .non, .int _ => some false
  | .non, .str _ => some false
  | .non, .tup _ => some false
  | .non, .lst _ => some false
  | .bl _, .non => some false
  | .bl a1, .bl a2 => some (a1 == a2)
  | .bl a1, .int a2 => some ((if a1 then 1 else 0) == a2)
  | .bl _, .str _ => some false
  | .bl _, .tup _ => some false
  | .bl _, .lst _ => some false
  | .int _, .non => some false
  | .int a1, .bl a2 => some (a1 == (if a2 then 1 else 0))
  | .int a1, .int a2 => some (a1 == a2)
  | .int _, .str _ => some false
  | .int _, .tup _ => some false
  | .int _, .lst _ => some false
  | .str _, .non => some false
  | .str _, .bl _ => some false
  | .str _, .int _ => some false
  | .str a1, .str a2 => some (a1 == a2)
  | .str _, .tup _ => some false
  | .str _, .lst _ => some false
  | .tup _, .non => some false
  | .tup _, .bl _ => some false
  | .tup _, .int _ => some false
  | .tup _, .str _ => some false
  | .tup _, .lst _ => some false
  | .lst _, .non => some false
  | .lst _, .bl _ => some false
  | .lst _, .int _ => some false
  | .lst _, .str _ => some false
  | .lst _, .tup _ => some false
  | _, _ => none
def sameRef : D → D → Bool
  | .ref m, .ref n => m == n
  | _, _ => false
def eqB (dk : Bool) (S : So) : Nat → D → D → Option Bool
  | 0 => fun _ _ => none
  | n + 1 => fun d e => if sameRef d e then some true else eqW dk (eqB dk S n) (vw S d) (vw S e)
/-- what == gives -/
def eqO (S : So) (d e : D) : Option Bool := eqW true (eqB true S 100) (vw S d) (vw S e)
def neO (S : So) (d e : D) : Option Bool := eqW false (eqB false S 100) (vw S d) (vw S e)
def eqD (d e : D) (S : So) : Rs D := match eqO S d e with
  | some b => .ok (.bl b) S
  | none => .stuck
def neD (d e : D) (S : So) : Rs D := match neO S d e with
  | some b => .ok (.bl (!b)) S
  | none => .stuck

/-! ### relation of what is looked at -/
def RW (K : PySem.W.Frag) (β : List Addr) (H : Hp) (v : V) : Vw → Prop
  | .non => v = .non
  | .bl b => v = .bl b
  | .int i => v = .int i
  | .str x => v = .str x
  | .tup ds => ∃ a xs, v = .ref a ∧ SqT K H a xs ∧ RDs K β H xs ds
  | .lst ds => ∃ a xs, v = .ref a ∧ SqL K H a xs ∧ RDs K β H xs ds
  | .dct kvs => ∃ a ys, v = .ref a ∧ H a = some (.dK ys) ∧ RPs K β H ys kvs
  | .oth => True
theorem RD.vw {K : PySem.W.Frag} {cl : Str → Option Addr} {β : List Addr} {S : So} {H : Hp} {v : V} {d : D} (R : Rl K cl β S H) (h : RD K β H v d) : RW K β H v (vw S d) := by
  cases h with
  | non => rfl
  | bl b => rfl
  | int i => rfl
  | str x => rfl
  | tup h r => exact ⟨_, _, rfl, h, r⟩
  | frl h r => exact ⟨_, _, rfl, h.sq, r⟩
  | @ref n a h =>
    show RW K β H (.ref a) (match S[n]? with
      | some (.lst ds) => .lst ds
      | some (.dct kvs) => .dct kvs
      | _ => .oth)
    split
    · rename_i ds e
      obtain ⟨xs, h1, h2⟩ := R.get e h
      exact ⟨_, xs, rfl, SqL.of h1, h2⟩
    · rename_i kvs e
      obtain ⟨ys, h1, h2⟩ := R.get e h
      exact ⟨_, ys, rfl, h1, h2⟩
    · trivial

section
variable {X : Cx} {pins : List (Addr × Obj)} {σ : Sl} {H : Hp} {s : Shared} {β : List Addr} {S : So} {cl : Str → Option Addr}
theorem k_free (I : Inv X pins σ H s) {a : Addr} {o : Obj} (h : X.K.lookup a = some o) : H a = none := (I.bs a o (I.ok.mod.kin a o h)).2
theorem fz_cases {K : PySem.W.Frag} {a : Addr} {xs : List V} (h : FzL K H a xs) : (∃ o, H a = some (.frz o (.lst xs))) ∨ ∃ o, K.lookup a = some o := by
  rcases h with h | h
  · exact .inl h
  · rcases h (fun _ => none) with (z | ⟨o, z⟩) | ⟨o, _, _, z, _⟩
    · cases z
    · cases z
    · exact .inr ⟨o, z⟩
theorem tup_not_list (I : Inv X pins σ H s) {a : Addr} {xs ys : List V} (h : SqT X.K H a xs) (h' : SqL X.K H a ys) : False := by
  obtain ⟨its, _, ⟨o, e, hc, _⟩, _⟩ := I.tuple h
  obtain ⟨its', _, ⟨o', n', e', hc', _⟩, _⟩ := I.list h'
  rw [e] at e'
  cases e'
  rw [hc] at hc'
  exact absurd (Value.type.inj hc') (by decide)
theorem tup_not_ref (I : Inv X pins σ H s) (R : Rl X.K cl β S H) {a : Addr} {xs : List V} {n : Nat} (h : SqT X.K H a xs) (h' : β[n]? = some a) : False := by
  obtain ⟨x, hx, ni⟩ := R.mut h'
  rcases h with (h | ⟨o, h⟩) | ⟨o, _, _, h, _⟩
  · rw [hx] at h; cases h; exact ni trivial
  · rw [hx] at h; cases h; exact ni trivial
  · rw [k_free I h] at hx; cases hx
theorem frl_not_ref (I : Inv X pins σ H s) (R : Rl X.K cl β S H) {a : Addr} {xs : List V} {n : Nat} (h : FzL X.K H a xs) (h' : β[n]? = some a) : False := by
  obtain ⟨x, hx, ni⟩ := R.mut h'
  rcases fz_cases h with ⟨o, h⟩ | ⟨o, h⟩
  · rw [hx] at h; cases h; exact ni trivial
  · rw [k_free I h] at hx; cases hx
mutual
theorem RD.fn (I : Inv X pins σ H s) (R : Rl X.K cl β S H) : ∀ {v : V} {d e : D}, RD X.K β H v d → RD X.K β H v e → d = e
  | _, _, _, .non, h => by cases h; rfl
  | _, _, _, .bl b, h => by cases h; rfl
  | _, _, _, .int b, h => by cases h; rfl
  | _, _, _, .str b, h => by cases h; rfl
  | _, _, _, .tup q r, h => by
    cases h with
    | tup q' r' =>
      have := I.tuple_inj q q'
      subst this
      rw [RDs.fn I R r r']
    | frl q' r' => exact (tup_not_list I q q'.sq).elim
    | ref q' => exact (tup_not_ref I R q q').elim
  | _, _, _, .frl q r, h => by
    cases h with
    | tup q' r' => exact (tup_not_list I q' q.sq).elim
    | frl q' r' =>
      have := I.list_inj q.sq q'.sq
      subst this
      rw [RDs.fn I R r r']
    | ref q' => exact (frl_not_ref I R q q').elim
  | _, _, _, .ref q, h => by
    cases h with
    | tup q' r' => exact (tup_not_ref I R q' q).elim
    | frl q' r' => exact (frl_not_ref I R q' q).elim
    | ref q' => rw [R.inj _ _ _ q q']
theorem RDs.fn (I : Inv X pins σ H s) (R : Rl X.K cl β S H) : ∀ {vs : List V} {ds es : List D}, RDs X.K β H vs ds → RDs X.K β H vs es → ds = es
  | _, _, _, .nil, h => by cases h; rfl
  | _, _, _, .cons a b, h => by
    cases h with
    | cons a' b' => rw [RD.fn I R a a', RDs.fn I R b b']
end
end

/-! ### equal to itself -/
theorem eqL_same {f : D → D → Option Bool} (hf : ∀ d b, f d d = some b → b = true) : ∀ (xs : List D) (b : Bool), eqL f xs xs = some b → b = true
  | [], b, h => by cases h; rfl
  | x :: xs, b, h => by
    unfold eqL at h
    split at h
    · rename_i a c h1 h2
      cases h
      rw [hf _ _ h1, eqL_same hf xs _ h2]
      rfl
    · cases h
theorem valD_same {k : Key} {x : D} {r : List (Key × D)} : valD ((k, x) :: r) k = some x := by simp [valD]

theorem eqL_len {f : D → D → Option Bool} : ∀ {xs ys : List D} {b : Bool}, eqL f xs ys = some b → ∃ e : Nat → Bool, (∀ (j : Nat) (x y : D), xs[j]? = some x → ys[j]? = some y → f x y = some (e j)) ∧
    b = ((List.range (min xs.length ys.length)).all e && xs.length == ys.length)
  | [], [], b, h => by cases h; exact ⟨fun _ => true, fun j x y h => by simp at h, by simp⟩
  | [], y :: ys, b, h => by cases h; exact ⟨fun _ => true, fun j x y h => by simp at h, by simp⟩
  | x :: xs, [], b, h => by cases h; exact ⟨fun _ => true, fun j x y _ h => by simp at h, by simp⟩
  | x :: xs, y :: ys, b, h => by
    unfold eqL at h
    split at h
    · rename_i a c h1 h2
      cases h
      obtain ⟨e, he, hb⟩ := eqL_len h2
      refine ⟨fun j => match j with | 0 => a | j + 1 => e j, fun j u v hu hv => ?_, ?_⟩
      · cases j with
        | zero =>
          simp at hu hv
          subst hu hv
          exact h1
        | succ j => exact he j u v (by simpa using hu) (by simpa using hv)
      · rw [hb, List.length_cons, List.length_cons, show min (xs.length + 1) (ys.length + 1) = min xs.length ys.length + 1 by omega, List.range_succ_eq_map, List.all_cons, List.all_map, Bool.and_assoc]
        congr 1
        congr 1
        rw [Bool.eq_iff_iff]
        simp
    · cases h
/-! ### against the semantics -/
/-- no two lists, no two tuples, no dict -/
def leafW : Vw → Vw → Bool
  | .tup _, .tup _ => false
  | .lst _, .lst _ => false
  | .dct _, _ => false
  | _, .dct _ => false
  | .oth, _ => false
  | _, .oth => false
  | _, _ => true
section
variable {X : Cx} {pins : List (Addr × Obj)} {σ : Sl} {H : Hp} {s : Shared} {β : List Addr} {S : So} {cl : Str → Option Addr}
theorem leaf_ok (I : Inv X pins σ H s) {A : Around} (hu : A.units < cLine) {dk : Bool} {f : D → D → Option Bool} {v w : V} {b : Bool} {u1 u2 : Value} (rp : RelV v u1) (rq : RelV w u2) : ∀ (p q : Vw), leafW p q = true → RW X.K β H v p → RW X.K β H w q → eqW dk f p q = some b →
    SeqAt.RcAt A s u1 u2 b ∧ SeqAt.RcNeAt A s u1 u2 (!b) ∧ SeqAt.EqAt A s u1 u2 b := by
  intro p q hl hp hq h
  match p, q with
  | .non, .non =>
    subst hp
    cases rp
    subst hq
    cases rq
    cases h
    exact ⟨SeqAt.RcAt.none_none, SeqAt.RcNeAt.none_none, SeqAt.EqAt.same _⟩
  | .non, .bl a2 =>
    subst hp
    cases rp
    subst hq
    cases rq
    cases h
    exact ⟨SeqAt.RcAt.none_bool a2, SeqAt.RcNeAt.none_bool a2, SeqAt.EqAt.none_bool a2⟩
  | .non, .int a2 =>
    subst hp
    cases rp
    subst hq
    obtain ⟨t2, rfl⟩ := rq
    cases h
    exact ⟨SeqAt.RcAt.none_int a2 t2, SeqAt.RcNeAt.none_int a2 t2, SeqAt.EqAt.none_int a2 t2⟩
  | .non, .str a2 =>
    subst hp
    cases rp
    subst hq
    obtain ⟨t2, rfl⟩ := rq
    cases h
    exact ⟨SeqAt.RcAt.none_str a2 t2, SeqAt.RcNeAt.none_str a2 t2, SeqAt.EqAt.none_str a2 t2⟩
  | .non, .tup a2 =>
    subst hp
    cases rp
    obtain ⟨l2, xs2, rfl, k2, m2⟩ := hq
    cases rq
    obtain ⟨its2, _, g2, _⟩ := I.tuple k2
    cases h
    exact ⟨SeqAt.RcAt.none_tuple g2 hu, SeqAt.RcNeAt.none_tuple g2 hu, SeqAt.EqAt.none_tuple g2 hu⟩
  | .non, .lst a2 =>
    subst hp
    cases rp
    obtain ⟨l2, xs2, rfl, k2, m2⟩ := hq
    cases rq
    obtain ⟨its2, _, g2, _⟩ := I.list k2
    cases h
    exact ⟨SeqAt.RcAt.none_list g2.isList hu, SeqAt.RcNeAt.none_list g2.isList hu, SeqAt.EqAt.none_list g2.isList hu⟩
  | .bl a1, .non =>
    subst hp
    cases rp
    subst hq
    cases rq
    cases h
    exact ⟨SeqAt.RcAt.bool_none a1, SeqAt.RcNeAt.bool_none a1, SeqAt.EqAt.bool_none a1⟩
  | .bl a1, .bl a2 =>
    subst hp
    cases rp
    subst hq
    cases rq
    cases h
    exact ⟨SeqAt.RcAt.bool_bool a1 a2, SeqAt.RcNeAt.bool_bool a1 a2, SeqAt.EqAt.bool_bool a1 a2⟩
  | .bl a1, .int a2 =>
    subst hp
    cases rp
    subst hq
    obtain ⟨t2, rfl⟩ := rq
    cases h
    exact ⟨SeqAt.RcAt.bool_int a1 a2 t2, SeqAt.RcNeAt.bool_int a1 a2 t2, SeqAt.EqAt.bool_int a1 a2 t2⟩
  | .bl a1, .str a2 =>
    subst hp
    cases rp
    subst hq
    obtain ⟨t2, rfl⟩ := rq
    cases h
    exact ⟨SeqAt.RcAt.bool_str a1 a2 t2, SeqAt.RcNeAt.bool_str a1 a2 t2, SeqAt.EqAt.bool_str a1 a2 t2⟩
  | .bl a1, .tup a2 =>
    subst hp
    cases rp
    obtain ⟨l2, xs2, rfl, k2, m2⟩ := hq
    cases rq
    obtain ⟨its2, _, g2, _⟩ := I.tuple k2
    cases h
    exact ⟨SeqAt.RcAt.bool_tuple a1 g2 hu, SeqAt.RcNeAt.bool_tuple a1 g2 hu, SeqAt.EqAt.bool_tuple a1 g2 hu⟩
  | .bl a1, .lst a2 =>
    subst hp
    cases rp
    obtain ⟨l2, xs2, rfl, k2, m2⟩ := hq
    cases rq
    obtain ⟨its2, _, g2, _⟩ := I.list k2
    cases h
    exact ⟨SeqAt.RcAt.bool_list a1 g2.isList hu, SeqAt.RcNeAt.bool_list a1 g2.isList hu, SeqAt.EqAt.bool_list a1 g2.isList hu⟩
  | .int a1, .non =>
    subst hp
    obtain ⟨t1, rfl⟩ := rp
    subst hq
    cases rq
    cases h
    exact ⟨SeqAt.RcAt.int_none a1 t1, SeqAt.RcNeAt.int_none a1 t1, SeqAt.EqAt.int_none a1 t1⟩
  | .int a1, .bl a2 =>
    subst hp
    obtain ⟨t1, rfl⟩ := rp
    subst hq
    cases rq
    cases h
    exact ⟨SeqAt.RcAt.int_bool a1 t1 a2, SeqAt.RcNeAt.int_bool a1 t1 a2, SeqAt.EqAt.int_bool a1 t1 a2⟩
  | .int a1, .int a2 =>
    subst hp
    obtain ⟨t1, rfl⟩ := rp
    subst hq
    obtain ⟨t2, rfl⟩ := rq
    cases h
    exact ⟨SeqAt.RcAt.int_int a1 t1 a2 t2, SeqAt.RcNeAt.int_int a1 t1 a2 t2, SeqAt.EqAt.int_int a1 t1 a2 t2⟩
  | .int a1, .str a2 =>
    subst hp
    obtain ⟨t1, rfl⟩ := rp
    subst hq
    obtain ⟨t2, rfl⟩ := rq
    cases h
    exact ⟨SeqAt.RcAt.int_str a1 t1 a2 t2, SeqAt.RcNeAt.int_str a1 t1 a2 t2, SeqAt.EqAt.int_str a1 t1 a2 t2⟩
  | .int a1, .tup a2 =>
    subst hp
    obtain ⟨t1, rfl⟩ := rp
    obtain ⟨l2, xs2, rfl, k2, m2⟩ := hq
    cases rq
    obtain ⟨its2, _, g2, _⟩ := I.tuple k2
    cases h
    exact ⟨SeqAt.RcAt.int_tuple a1 t1 g2 hu, SeqAt.RcNeAt.int_tuple a1 t1 g2 hu, SeqAt.EqAt.int_tuple a1 t1 g2 hu⟩
  | .int a1, .lst a2 =>
    subst hp
    obtain ⟨t1, rfl⟩ := rp
    obtain ⟨l2, xs2, rfl, k2, m2⟩ := hq
    cases rq
    obtain ⟨its2, _, g2, _⟩ := I.list k2
    cases h
    exact ⟨SeqAt.RcAt.int_list a1 t1 g2.isList hu, SeqAt.RcNeAt.int_list a1 t1 g2.isList hu, SeqAt.EqAt.int_list a1 t1 g2.isList hu⟩
  | .str a1, .non =>
    subst hp
    obtain ⟨t1, rfl⟩ := rp
    subst hq
    cases rq
    cases h
    exact ⟨SeqAt.RcAt.str_none a1 t1, SeqAt.RcNeAt.str_none a1 t1, SeqAt.EqAt.str_none a1 t1⟩
  | .str a1, .bl a2 =>
    subst hp
    obtain ⟨t1, rfl⟩ := rp
    subst hq
    cases rq
    cases h
    exact ⟨SeqAt.RcAt.str_bool a1 t1 a2, SeqAt.RcNeAt.str_bool a1 t1 a2, SeqAt.EqAt.str_bool a1 t1 a2⟩
  | .str a1, .int a2 =>
    subst hp
    obtain ⟨t1, rfl⟩ := rp
    subst hq
    obtain ⟨t2, rfl⟩ := rq
    cases h
    exact ⟨SeqAt.RcAt.str_int a1 t1 a2 t2, SeqAt.RcNeAt.str_int a1 t1 a2 t2, SeqAt.EqAt.str_int a1 t1 a2 t2⟩
  | .str a1, .str a2 =>
    subst hp
    obtain ⟨t1, rfl⟩ := rp
    subst hq
    obtain ⟨t2, rfl⟩ := rq
    cases h
    exact ⟨SeqAt.RcAt.str_str a1 t1 a2 t2, SeqAt.RcNeAt.str_str a1 t1 a2 t2, SeqAt.EqAt.str_str a1 t1 a2 t2⟩
  | .str a1, .tup a2 =>
    subst hp
    obtain ⟨t1, rfl⟩ := rp
    obtain ⟨l2, xs2, rfl, k2, m2⟩ := hq
    cases rq
    obtain ⟨its2, _, g2, _⟩ := I.tuple k2
    cases h
    exact ⟨SeqAt.RcAt.str_tuple a1 t1 g2 hu, SeqAt.RcNeAt.str_tuple a1 t1 g2 hu, SeqAt.EqAt.str_tuple a1 t1 g2 hu⟩
  | .str a1, .lst a2 =>
    subst hp
    obtain ⟨t1, rfl⟩ := rp
    obtain ⟨l2, xs2, rfl, k2, m2⟩ := hq
    cases rq
    obtain ⟨its2, _, g2, _⟩ := I.list k2
    cases h
    exact ⟨SeqAt.RcAt.str_list a1 t1 g2.isList hu, SeqAt.RcNeAt.str_list a1 t1 g2.isList hu, SeqAt.EqAt.str_list a1 t1 g2.isList hu⟩
  | .tup a1, .non =>
    obtain ⟨l1, xs1, rfl, k1, m1⟩ := hp
    cases rp
    obtain ⟨its1, _, g1, _⟩ := I.tuple k1
    subst hq
    cases rq
    cases h
    exact ⟨SeqAt.RcAt.tuple_none g1 hu, SeqAt.RcNeAt.tuple_none g1 hu, SeqAt.EqAt.tuple_none g1 hu⟩
  | .tup a1, .bl a2 =>
    obtain ⟨l1, xs1, rfl, k1, m1⟩ := hp
    cases rp
    obtain ⟨its1, _, g1, _⟩ := I.tuple k1
    subst hq
    cases rq
    cases h
    exact ⟨SeqAt.RcAt.tuple_bool a2 g1 hu, SeqAt.RcNeAt.tuple_bool a2 g1 hu, SeqAt.EqAt.tuple_bool a2 g1 hu⟩
  | .tup a1, .int a2 =>
    obtain ⟨l1, xs1, rfl, k1, m1⟩ := hp
    cases rp
    obtain ⟨its1, _, g1, _⟩ := I.tuple k1
    subst hq
    obtain ⟨t2, rfl⟩ := rq
    cases h
    exact ⟨SeqAt.RcAt.tuple_int a2 t2 g1 hu, SeqAt.RcNeAt.tuple_int a2 t2 g1 hu, SeqAt.EqAt.tuple_int a2 t2 g1 hu⟩
  | .tup a1, .str a2 =>
    obtain ⟨l1, xs1, rfl, k1, m1⟩ := hp
    cases rp
    obtain ⟨its1, _, g1, _⟩ := I.tuple k1
    subst hq
    obtain ⟨t2, rfl⟩ := rq
    cases h
    exact ⟨SeqAt.RcAt.tuple_str a2 t2 g1 hu, SeqAt.RcNeAt.tuple_str a2 t2 g1 hu, SeqAt.EqAt.tuple_str a2 t2 g1 hu⟩
  | .tup a1, .lst a2 =>
    obtain ⟨l1, xs1, rfl, k1, m1⟩ := hp
    cases rp
    obtain ⟨its1, _, g1, _⟩ := I.tuple k1
    obtain ⟨l2, xs2, rfl, k2, m2⟩ := hq
    cases rq
    obtain ⟨its2, _, g2, _⟩ := I.list k2
    cases h
    exact ⟨SeqAt.RcAt.tuple_list g1 g2.isList hu, SeqAt.RcNeAt.tuple_list g1 g2.isList hu, SeqAt.EqAt.tuple_list g1 g2.isList hu⟩
  | .lst a1, .non =>
    obtain ⟨l1, xs1, rfl, k1, m1⟩ := hp
    cases rp
    obtain ⟨its1, _, g1, _⟩ := I.list k1
    subst hq
    cases rq
    cases h
    exact ⟨SeqAt.RcAt.list_none g1.isList hu, SeqAt.RcNeAt.list_none g1.isList hu, SeqAt.EqAt.list_none g1.isList hu⟩
  | .lst a1, .bl a2 =>
    obtain ⟨l1, xs1, rfl, k1, m1⟩ := hp
    cases rp
    obtain ⟨its1, _, g1, _⟩ := I.list k1
    subst hq
    cases rq
    cases h
    exact ⟨SeqAt.RcAt.list_bool a2 g1.isList hu, SeqAt.RcNeAt.list_bool a2 g1.isList hu, SeqAt.EqAt.list_bool a2 g1.isList hu⟩
  | .lst a1, .int a2 =>
    obtain ⟨l1, xs1, rfl, k1, m1⟩ := hp
    cases rp
    obtain ⟨its1, _, g1, _⟩ := I.list k1
    subst hq
    obtain ⟨t2, rfl⟩ := rq
    cases h
    exact ⟨SeqAt.RcAt.list_int a2 t2 g1.isList hu, SeqAt.RcNeAt.list_int a2 t2 g1.isList hu, SeqAt.EqAt.list_int a2 t2 g1.isList hu⟩
  | .lst a1, .str a2 =>
    obtain ⟨l1, xs1, rfl, k1, m1⟩ := hp
    cases rp
    obtain ⟨its1, _, g1, _⟩ := I.list k1
    subst hq
    obtain ⟨t2, rfl⟩ := rq
    cases h
    exact ⟨SeqAt.RcAt.list_str a2 t2 g1.isList hu, SeqAt.RcNeAt.list_str a2 t2 g1.isList hu, SeqAt.EqAt.list_str a2 t2 g1.isList hu⟩
  | .lst a1, .tup a2 =>
    obtain ⟨l1, xs1, rfl, k1, m1⟩ := hp
    cases rp
    obtain ⟨its1, _, g1, _⟩ := I.list k1
    obtain ⟨l2, xs2, rfl, k2, m2⟩ := hq
    cases rq
    obtain ⟨its2, _, g2, _⟩ := I.tuple k2
    cases h
    exact ⟨SeqAt.RcAt.list_tuple g1.isList g2 hu, SeqAt.RcNeAt.list_tuple g1.isList g2 hu, SeqAt.EqAt.list_tuple g1.isList g2 hu⟩
  | .tup _, .tup _ => exact absurd hl Bool.false_ne_true
  | .lst _, .lst _ => exact absurd hl Bool.false_ne_true
  | .dct _, .non => exact absurd hl Bool.false_ne_true
  | .dct _, .bl _ => exact absurd hl Bool.false_ne_true
  | .dct _, .int _ => exact absurd hl Bool.false_ne_true
  | .dct _, .str _ => exact absurd hl Bool.false_ne_true
  | .dct _, .tup _ => exact absurd hl Bool.false_ne_true
  | .dct _, .lst _ => exact absurd hl Bool.false_ne_true
  | .dct _, .dct _ => exact absurd hl Bool.false_ne_true
  | .dct _, .oth => exact absurd hl Bool.false_ne_true
  | .non, .dct _ => exact absurd hl Bool.false_ne_true
  | .bl _, .dct _ => exact absurd hl Bool.false_ne_true
  | .int _, .dct _ => exact absurd hl Bool.false_ne_true
  | .str _, .dct _ => exact absurd hl Bool.false_ne_true
  | .tup _, .dct _ => exact absurd hl Bool.false_ne_true
  | .lst _, .dct _ => exact absurd hl Bool.false_ne_true
  | .oth, .non => exact absurd hl Bool.false_ne_true
  | .oth, .bl _ => exact absurd hl Bool.false_ne_true
  | .oth, .int _ => exact absurd hl Bool.false_ne_true
  | .oth, .str _ => exact absurd hl Bool.false_ne_true
  | .oth, .tup _ => exact absurd hl Bool.false_ne_true
  | .oth, .lst _ => exact absurd hl Bool.false_ne_true
  | .oth, .oth => exact absurd hl Bool.false_ne_true
  | .non, .oth => exact absurd hl Bool.false_ne_true
  | .bl _, .oth => exact absurd hl Bool.false_ne_true
  | .int _, .oth => exact absurd hl Bool.false_ne_true
  | .str _, .oth => exact absurd hl Bool.false_ne_true
  | .tup _, .oth => exact absurd hl Bool.false_ne_true
  | .lst _, .oth => exact absurd hl Bool.false_ne_true
  | .oth, .dct _ => exact absurd hl Bool.false_ne_true

theorem items_at {K : PySem.W.Frag} {H : Hp} {β : List Addr} {xs : List V} {its : List Value} {ds : List D} (r : Vals xs its) (m : RDs K β H xs ds) : its.toArray.size = ds.length ∧ ∀ j (h : j < its.toArray.size), ∃ v d, ds[j]? = some d ∧ RD K β H v d ∧ RelV v its.toArray[j] := by
  have h1 := r.length
  have h2 := m.length
  refine ⟨by simp; omega, fun j h => ?_⟩
  have hj : j < its.length := by simpa using h
  obtain ⟨v, q1, q2⟩ := m.get (i := j) (d := ds[j]'(by omega)) (List.getElem?_eq_getElem (by omega))
  obtain ⟨u, q3, q4⟩ := r.get q1
  refine ⟨v, _, List.getElem?_eq_getElem (by omega), q2, ?_⟩
  have e : its[j]? = some its[j] := List.getElem?_eq_getElem hj
  rw [e] at q3
  cases q3
  simpa using q4
theorem eqW_same {dk : Bool} {f : D → D → Option Bool} (hf : ∀ d b, f d d = some b → b = true) : ∀ (p : Vw) (b : Bool), (∀ ks, p ≠ .dct ks) → eqW dk f p p = some b → b = true := by
  intro p b hp h
  cases p with
  | non => cases h; rfl
  | bl a => cases h; simp
  | int a => cases h; simp
  | str a => cases h; simp
  | tup ds => exact eqL_same hf ds b h
  | lst ds => exact eqL_same hf ds b h
  | dct ks => exact absurd rfl (hp ks)
  | oth => cases h
theorem eqB_same {dk : Bool} {S : So} : ∀ (n : Nat) (d : D) (b : Bool), eqB dk S n d d = some b → b = true
  | 0, d, b, h => by cases h
  | n + 1, d, b, h => by
    cases d with
    | ref m =>
      have e : sameRef (.ref m) (.ref m) = true := by simp [sameRef]
      unfold eqB at h
      rw [if_pos e] at h
      cases h
      rfl
    | non => exact eqW_same (dk := dk) (f := eqB dk S n) (eqB_same n) .non b (fun _ z => nomatch z) h
    | bl x => exact eqW_same (dk := dk) (f := eqB dk S n) (eqB_same n) (.bl x) b (fun _ z => nomatch z) h
    | int x => exact eqW_same (dk := dk) (f := eqB dk S n) (eqB_same n) (.int x) b (fun _ z => nomatch z) h
    | str x => exact eqW_same (dk := dk) (f := eqB dk S n) (eqB_same n) (.str x) b (fun _ z => nomatch z) h
    | tup x => exact eqW_same (dk := dk) (f := eqB dk S n) (eqB_same n) (.tup x) b (fun _ z => nomatch z) h
    | frl x => exact eqW_same (dk := dk) (f := eqB dk S n) (eqB_same n) (.lst x) b (fun _ z => nomatch z) h
theorem all_congr {n m : Nat} {e : Nat → Bool} (h : n = m) : (List.range n).all e = (List.range m).all e := by rw [h]

/-- the values of two dicts -/
theorem eqK_len {f : D → D → Option Bool} {ls : List (Key × D)} : ∀ {ks : List (Key × D)} {b : Bool}, (ks.map (·.1)).Nodup → eqK f ls ks = some b → ∃ e : Key → Bool, (∀ k x y, (k, x) ∈ ks → valD ls k = some y → f x y = some (e k)) ∧
    b = ks.all fun p => (valD ls p.1).isSome && e p.1
  | [], b, _, h => by cases h; exact ⟨fun _ => true, fun k x y h => by simp at h, by simp⟩
  | (k, x) :: r, b, hn, h => by
    have hn' : (r.map (·.1)).Nodup := (List.nodup_cons.mp hn).2
    have hk : k ∉ r.map (·.1) := (List.nodup_cons.mp hn).1
    unfold eqK at h
    cases hv : valD ls k with
    | none =>
      rw [hv] at h
      cases hr : eqK f ls r with
      | none => rw [hr] at h; cases h
      | some c =>
        rw [hr] at h
        cases h
        obtain ⟨e, he, hb⟩ := eqK_len hn' hr
        refine ⟨e, fun k' x' y' hm hy => ?_, by simp [hv]⟩
        rcases List.mem_cons.mp hm with z | z
        · cases z
          rw [hv] at hy
          cases hy
        · exact he k' x' y' z hy
    | some y =>
      rw [hv] at h
      simp only at h
      split at h
      · rename_i a c h1 h2
        cases h
        obtain ⟨e, he, hb⟩ := eqK_len hn' h2
        refine ⟨fun k' => if k' = k then a else e k', fun k' x' y' hm hy => ?_, ?_⟩
        · rcases List.mem_cons.mp hm with z | z
          · cases z
            rw [hv] at hy
            cases hy
            show f x y = some (if k = k then a else e k)
            rw [if_pos rfl]
            exact h1
          · have : k' ≠ k := fun q => hk (q ▸ List.mem_map_of_mem (f := (·.1)) z)
            show f x' y' = some (if k' = k then a else e k')
            rw [if_neg this]
            exact he k' x' y' z hy
        · rw [List.all_cons, hv, hb]
          simp only [Option.isSome_some, Bool.true_and, if_pos]
          congr 1
          rw [Bool.eq_iff_iff, List.all_eq_true, List.all_eq_true]
          constructor
          · intro q p hp
            have : p.1 ≠ k := fun z => hk (z ▸ List.mem_map_of_mem (f := (·.1)) hp)
            rw [if_neg this]
            exact q p hp
          · intro q p hp
            have : p.1 ≠ k := fun z => hk (z ▸ List.mem_map_of_mem (f := (·.1)) hp)
            have q' := q p hp
            rw [if_neg this] at q'
            exact q'
      · cases h
/-- the three sights of a dict -/
theorem kv3 {K : PySem.W.Frag} {H : Hp} {β : List Addr} {ys : List (Key × V)} {kvs : List (Key × D)} (m : RPs K β H ys kvs) {vs : List (Key × Value)} (r : KV ys vs) : vs.length = kvs.length ∧ vs.map (·.1) = kvs.map (·.1) ∧
    (∀ (k : Key) (u : Value), (k, u) ∈ vs → ∃ v d, (k, d) ∈ kvs ∧ RD K β H v d ∧ RelV v u) ∧ ∀ k : Key, (valueAt vs k = none ∧ valD kvs k = none) ∨ ∃ u v d, valueAt vs k = some u ∧ valD kvs k = some d ∧ RD K β H v d ∧ RelV v u := by
  unfold RPs at m
  unfold KV at r
  induction r generalizing kvs with
  | nil =>
    cases m
    exact ⟨rfl, rfl, fun k u h => by simp at h, fun k => .inl ⟨rfl, rfl⟩⟩
  | @cons p q ps qs a b ih =>
    cases m with
    | @cons _ c _ cs a' b' =>
      obtain ⟨h1, h2, h3, h4⟩ := ih b'
      obtain ⟨k0, u0⟩ := q
      obtain ⟨k1, v1⟩ := p
      obtain ⟨k2, d2⟩ := c
      obtain ⟨e1, e2⟩ := a
      obtain ⟨e3, e4⟩ := a'
      simp only at e1 e2 e3 e4
      subst e1 e3
      refine ⟨by simp [h1], by simp [h2], fun k u hm => ?_, fun k => ?_⟩
      · rcases List.mem_cons.mp hm with z | z
        · cases z
          exact ⟨_, _, List.mem_cons_self, e4, e2⟩
        · obtain ⟨v, d, q1, q2, q3⟩ := h3 k u z
          exact ⟨v, d, List.mem_cons_of_mem _ q1, q2, q3⟩
      · by_cases hk : k1 = k
        · subst hk
          exact .inr ⟨u0, v1, d2, by simp [valueAt], by simp [valD], e4, e2⟩
        · have q1 : valueAt ((k1, u0) :: qs) k = valueAt qs k := by simp [valueAt, List.find?_cons, hk]
          have q2 : valD ((k1, d2) :: cs) k = valD cs k := by simp [valD, List.find?_cons, hk]
          rw [q1, q2]
          exact h4 k
theorem nodup_of {X : Cx} {pins : List (Addr × Obj)} {σ : Sl} {H : Hp} {s : Shared} (I : Inv X pins σ H s) {a : Addr} {ys : List (Key × V)} (h : H a = some (.dK ys)) : ∃ vs, (a == sysModules) = false ∧ KV ys vs ∧ s.heap.DictOf (mixKind X.prog X.w) a vs ∧ (vs.map (·.1)).Nodup := by
  obtain ⟨_, ha, vs, kv, d⟩ := dk_of I.hok h
  obtain ⟨_, _, _, _, _, _, _, _, nd⟩ := id d
  exact ⟨vs, ha, kv, d, nd⟩
theorem eqB_ok (I : Inv X pins σ H s) (R : Rl X.K cl β S H) : ∀ (n : Nat) {d e : D} {b : Bool} {v w : V} {u1 u2 : Value}, eqB true S n d e = some b → RD X.K β H v d → RD X.K β H w e → RelV v u1 → RelV w u2 → PySem.W.EqTree X.prog X.w s n u1 u2 b
  | 0, _, _, _, _, _, _, _, h, _, _, _, _ => by cases h
  | n + 1, d, e, b, v, w, u1, u2, h, hv, hw, r1, r2 => by
    unfold eqB at h
    split at h
    · rename_i hs
      cases h
      cases d <;> cases e <;> first | exact absurd hs Bool.false_ne_true | skip
      rename_i m k
      have : m = k := by simpa [sameRef] using hs
      subst this
      cases hv with
      | ref q1 =>
        cases hw with
        | ref q2 =>
          rw [q1] at q2
          cases q2
          cases r1
          cases r2
          exact .same
    · rename_i hs
      have wp := hv.vw R
      have wq := hw.vw R
      by_cases hl : leafW (vw S d) (vw S e) = true
      · exact .leaf fun A hu => (leaf_ok I (by omega) r1 r2 _ _ hl wp wq h).2.2
      · generalize hp : vw S d = p at *
        generalize hq : vw S e = q at *
        cases p with
        | tup ds =>
          cases q with
          | tup es =>
            obtain ⟨l1, xs1, rfl, k1, m1⟩ := wp
            obtain ⟨l2, xs2, rfl, k2, m2⟩ := wq
            cases r1
            cases r2
            by_cases hll : l1 = l2
            · subst hll
              have := I.tuple_inj k1 k2
              subst this
              have := RDs.fn I R m1 m2
              subst this
              have hb : b = true := eqL_same (fun d b => eqB_same n d b) _ _ h
              rw [hb]
              exact .same
            · obtain ⟨its1, v1, g1, _⟩ := I.tuple k1
              obtain ⟨its2, v2, g2, _⟩ := I.tuple k2
              obtain ⟨z1, i1⟩ := items_at v1 m1
              obtain ⟨z2, i2⟩ := items_at v2 m2
              obtain ⟨f, hf, hb⟩ := eqL_len h
              rw [hb, ← z1, ← z2]
              refine .tuples hll g1 g2 fun j h1 h2 => ?_
              obtain ⟨v, d', q1, q2, q3⟩ := i1 j h1
              obtain ⟨v', d'', q1', q2', q3'⟩ := i2 j h2
              exact eqB_ok I R n (hf j d' d'' q1 q1') q2 q2' q3 q3'
          | _ => first | exact absurd rfl hl | cases h
        | lst ds =>
          cases q with
          | lst es =>
            obtain ⟨l1, xs1, rfl, k1, m1⟩ := wp
            obtain ⟨l2, xs2, rfl, k2, m2⟩ := wq
            cases r1
            cases r2
            by_cases hll : l1 = l2
            · subst hll
              have := I.list_inj k1 k2
              subst this
              have := RDs.fn I R m1 m2
              subst this
              have hb : b = true := eqL_same (fun d b => eqB_same n d b) _ _ h
              rw [hb]
              exact .same
            · obtain ⟨its1, v1, g1, _⟩ := I.list k1
              obtain ⟨its2, v2, g2, _⟩ := I.list k2
              obtain ⟨z1, i1⟩ := items_at v1 m1
              obtain ⟨z2, i2⟩ := items_at v2 m2
              obtain ⟨f, hf, hb⟩ := eqL_len h
              by_cases hz : its1.toArray.size = its2.toArray.size
              · have e1 : b = (List.range its1.toArray.size).all f := by
                  rw [hb, ← z1, ← z2, hz]
                  simp
                rw [e1]
                refine .lists hll g1.isList g2.isList hz fun j h1 h2 => ?_
                obtain ⟨v, d', q1, q2, q3⟩ := i1 j h1
                obtain ⟨v', d'', q1', q2', q3'⟩ := i2 j h2
                exact eqB_ok I R n (hf j d' d'' q1 q1') q2 q2' q3 q3'
              · have e1 : b = false := by
                  rw [hb, ← z1, ← z2]
                  have : (its1.toArray.size == its2.toArray.size) = false := beq_eq_false_iff_ne.mpr hz
                  rw [this, Bool.and_false]
                rw [e1]
                exact .listsLen hll g1.isList g2.isList (bne_iff_ne.mpr hz)
          | _ => first | exact absurd rfl hl | cases h
        | dct ks =>
          cases q with
          | dct ls =>
            obtain ⟨l1, ys1, rfl, k1, m1⟩ := wp
            obtain ⟨l2, ys2, rfl, k2, m2⟩ := wq
            cases r1
            cases r2
            have hll : l1 ≠ l2 := fun z => by
              subst z
              have : d = e := RD.fn I R hv hw
              subst this
              cases d <;> first | (cases hp; done) | skip
              rename_i m
              exact hs (by simp [sameRef])
            obtain ⟨vs1, a1, c1, d1, n1⟩ := nodup_of I k1
            obtain ⟨vs2, a2, c2, d2, n2⟩ := nodup_of I k2
            obtain ⟨b1, b2, b3, b4⟩ := kv3 m1 c1
            obtain ⟨b1', b2', b3', b4'⟩ := kv3 m2 c2
            have h' : (eqK (eqB true S n) ls ks).map (fun b => (ks.length == ls.length && b)) = some b := h
            cases hk : eqK (eqB true S n) ls ks with
            | none => rw [hk] at h'; cases h'
            | some c =>
              rw [hk] at h'
              cases h'
              obtain ⟨f, hf, hc⟩ := eqK_len (by rw [← b2]; exact n1) hk
              have same : ∀ k : Key, (valueAt vs2 k).isSome = (valD ls k).isSome := fun k => by
                rcases b4' k with ⟨q1, q2⟩ | ⟨u, v, d, q1, q2, _⟩ <;> rw [q1, q2] <;> rfl
              have eb : (ks.length == ls.length && c) = (vs1.length == vs2.length && vs1.all fun p => (valueAt vs2 p.1).isSome && f p.1) := by
                rw [b1, b1', hc]
                congr 1
                have e1 : (ks.all fun p => (valD ls p.1).isSome && f p.1) = (ks.map (·.1)).all fun k => (valD ls k).isSome && f k := by rw [List.all_map]; rfl
                have e2 : (vs1.all fun p => (valueAt vs2 p.1).isSome && f p.1) = (vs1.map (·.1)).all fun k => (valueAt vs2 k).isSome && f k := by rw [List.all_map]; rfl
                rw [e1, e2, b2]
                congr 1
                funext k
                rw [same k]
              show PySem.W.EqTree X.prog X.w s (n + 1) _ _ (ks.length == ls.length && c)
              rw [eb]
              refine .dicts hll a1 a2 d1 d2 fun k u y hm hy => ?_
              obtain ⟨v, d', q1, q2, q3⟩ := b3 k u hm
              rcases b4' k with ⟨q4, _⟩ | ⟨u', v', d'', q4, q5, q6, q7⟩
              · rw [q4] at hy
                cases hy
              · rw [q4] at hy
                cases hy
                exact eqB_ok I R n (hf k d' d'' q1 q5) q2 q6 q3 q7
          | _ => first | exact absurd rfl hl | cases h
        | _ => cases q <;> first | exact absurd rfl hl | cases h
theorem eqP_ok (I : Inv X pins σ H s) (R : Rl X.K cl β S H) : ∀ (n : Nat) {d e : D} {b : Bool} {v w : V} {u1 u2 : Value} {A : Around}, A.units + n < cLine → eqB false S n d e = some b → RD X.K β H v d → RD X.K β H w e → RelV v u1 → RelV w u2 → SeqAt.EqAt A s u1 u2 b
  | 0, _, _, _, _, _, _, _, _, _, h, _, _, _, _ => by cases h
  | n + 1, d, e, b, v, w, u1, u2, A, hu, h, hv, hw, r1, r2 => by
    unfold eqB at h
    split at h
    · rename_i hs
      cases h
      cases d <;> cases e <;> first | exact absurd hs Bool.false_ne_true | skip
      rename_i m k
      have : m = k := by simpa [sameRef] using hs
      subst this
      cases hv with
      | ref q1 =>
        cases hw with
        | ref q2 =>
          rw [q1] at q2
          cases q2
          cases r1
          cases r2
          exact SeqAt.EqAt.same _
    · rename_i hs
      have wp := hv.vw R
      have wq := hw.vw R
      by_cases hl : leafW (vw S d) (vw S e) = true
      · exact (leaf_ok I (by omega) r1 r2 _ _ hl wp wq h).2.2
      · generalize hp : vw S d = p at *
        generalize hq : vw S e = q at *
        cases p with
        | tup ds =>
          cases q with
          | tup es =>
            obtain ⟨l1, xs1, rfl, k1, m1⟩ := wp
            obtain ⟨l2, xs2, rfl, k2, m2⟩ := wq
            cases r1
            cases r2
            by_cases hll : l1 = l2
            · subst hll
              have := I.tuple_inj k1 k2
              subst this
              have := RDs.fn I R m1 m2
              subst this
              have hb : b = true := eqL_same (fun d b => eqB_same n d b) _ _ h
              rw [hb]
              exact SeqAt.EqAt.same _
            · obtain ⟨its1, v1, g1, _⟩ := I.tuple k1
              obtain ⟨its2, v2, g2, _⟩ := I.tuple k2
              obtain ⟨z1, i1⟩ := items_at v1 m1
              obtain ⟨z2, i2⟩ := items_at v2 m2
              obtain ⟨f, hf, hb⟩ := eqL_len h
              rw [hb, ← z1, ← z2]
              refine SeqAt.EqAt.of_refs hll (SeqAt.RcAt.tuples g1 g2 (by omega) fun j h1 h2 => ?_)
              obtain ⟨v, d', q1, q2, q3⟩ := i1 j h1
              obtain ⟨v', d'', q1', q2', q3'⟩ := i2 j h2
              exact eqP_ok I R n (by show A.units + 1 + n < cLine; omega) (hf j d' d'' q1 q1') q2 q2' q3 q3'
          | _ => first | exact absurd rfl hl | cases h
        | lst ds =>
          cases q with
          | lst es =>
            obtain ⟨l1, xs1, rfl, k1, m1⟩ := wp
            obtain ⟨l2, xs2, rfl, k2, m2⟩ := wq
            cases r1
            cases r2
            by_cases hll : l1 = l2
            · subst hll
              have := I.list_inj k1 k2
              subst this
              have := RDs.fn I R m1 m2
              subst this
              have hb : b = true := eqL_same (fun d b => eqB_same n d b) _ _ h
              rw [hb]
              exact SeqAt.EqAt.same _
            · obtain ⟨its1, v1, g1, _⟩ := I.list k1
              obtain ⟨its2, v2, g2, _⟩ := I.list k2
              obtain ⟨z1, i1⟩ := items_at v1 m1
              obtain ⟨z2, i2⟩ := items_at v2 m2
              obtain ⟨f, hf, hb⟩ := eqL_len h
              by_cases hz : its1.toArray.size = its2.toArray.size
              · have e1 : b = (List.range its1.toArray.size).all f := by
                  rw [hb, ← z1, ← z2, hz]
                  simp
                rw [e1]
                refine SeqAt.EqAt.of_refs hll (SeqAt.RcAt.lists g1.isList g2.isList hz (by omega) fun j h1 h2 => ?_)
                obtain ⟨v, d', q1, q2, q3⟩ := i1 j h1
                obtain ⟨v', d'', q1', q2', q3'⟩ := i2 j h2
                exact eqP_ok I R n (by show A.units + 1 + n < cLine; omega) (hf j d' d'' q1 q1') q2 q2' q3 q3'
              · have e1 : b = false := by
                  rw [hb, ← z1, ← z2]
                  have : (its1.toArray.size == its2.toArray.size) = false := beq_eq_false_iff_ne.mpr hz
                  rw [this, Bool.and_false]
                rw [e1]
                exact SeqAt.EqAt.of_refs hll (SeqAt.RcAt.lists_lengths g1.isList g2.isList (bne_iff_ne.mpr hz) (by omega))
          | _ => first | exact absurd rfl hl | cases h
        | dct ks => cases q <;> cases h
        | _ => cases q <;> first | exact absurd rfl hl | cases h
end
def rEqM (K : PySem.W.Frag) (cl : Str → Option Addr) : R2 := fun x y H Q => ∃ (β : List Addr) (S : So) (d e : D) (b : Bool), Rl K cl β S H ∧ RD K β H x d ∧ RD K β H y e ∧ eqO S d e = some b ∧ Q (.bl b) H
def rNeM (K : PySem.W.Frag) (cl : Str → Option Addr) : R2 := fun x y H Q => ∃ (β : List Addr) (S : So) (d e : D) (b : Bool), Rl K cl β S H ∧ RD K β H x d ∧ RD K β H y e ∧ neO S d e = some b ∧ Q (.bl (!b)) H
theorem oo_eq {X : Cx} {cl : Str → Option Addr} (hu : X.A.units + 160 < cLine) : OpR X (compareOp .Eq) (rEqM X.K cl) := by
  intro pins s σ H v w u1 u2 Q I r1 r2 hh
  obtain ⟨β, S, d, e, b, R, hv, hw, h, q⟩ := hh
  have post : EP X pins σ Q (.bool b) s := ⟨.bl b, H, I, rfl, q⟩
  have wp := hv.vw R
  have wq := hw.vw R
  unfold eqO at h
  by_cases hl : leafW (vw S d) (vw S e) = true
  · exact (leaf_ok I (by omega) r1 r2 _ _ hl wp wq h).1 _ _ _ _ post
  · generalize hp : vw S d = p at *
    generalize hq : vw S e = q at *
    cases p with
    | tup ds =>
      cases q with
      | tup es =>
        obtain ⟨l1, xs1, rfl, k1, m1⟩ := wp
        obtain ⟨l2, xs2, rfl, k2, m2⟩ := wq
        cases r1
        cases r2
        obtain ⟨its1, v1, g1, _⟩ := I.tuple k1
        obtain ⟨its2, v2, g2, _⟩ := I.tuple k2
        obtain ⟨z1, i1⟩ := items_at v1 m1
        obtain ⟨z2, i2⟩ := items_at v2 m2
        obtain ⟨f, hf, hb⟩ := eqL_len h
        rw [hb, ← z1, ← z2] at post
        refine PySem.W.eq_tuplesT (n := 100) g1 g2 (fun j h1 h2 => ?_) (by omega) post
        obtain ⟨v, d', q1, q2, q3⟩ := i1 j h1
        obtain ⟨v', d'', q1', q2', q3'⟩ := i2 j h2
        exact eqB_ok I R 100 (hf j d' d'' q1 q1') q2 q2' q3 q3'
      | _ => first | exact absurd rfl hl | cases h
    | lst ds =>
      cases q with
      | lst es =>
        obtain ⟨l1, xs1, rfl, k1, m1⟩ := wp
        obtain ⟨l2, xs2, rfl, k2, m2⟩ := wq
        cases r1
        cases r2
        obtain ⟨its1, v1, g1, _⟩ := I.list k1
        obtain ⟨its2, v2, g2, _⟩ := I.list k2
        obtain ⟨z1, i1⟩ := items_at v1 m1
        obtain ⟨z2, i2⟩ := items_at v2 m2
        obtain ⟨f, hf, hb⟩ := eqL_len h
        by_cases hz : its1.toArray.size = its2.toArray.size
        · have e1 : b = (List.range its1.toArray.size).all f := by
            rw [hb, ← z1, ← z2, hz]
            simp
          rw [e1] at post
          refine PySem.W.eq_listsT (n := 100) g1.isList g2.isList hz (fun j h1 h2 => ?_) (by omega) post
          obtain ⟨v, d', q1, q2, q3⟩ := i1 j h1
          obtain ⟨v', d'', q1', q2', q3'⟩ := i2 j h2
          exact eqB_ok I R 100 (hf j d' d'' q1 q1') q2 q2' q3 q3'
        · have e1 : b = false := by
            rw [hb, ← z1, ← z2]
            have : (its1.toArray.size == its2.toArray.size) = false := beq_eq_false_iff_ne.mpr hz
            rw [this, Bool.and_false]
          rw [e1] at post
          exact SeqAt.RcAt.lists_lengths g1.isList g2.isList (bne_iff_ne.mpr hz) (by omega) _ _ _ _ post
      | _ => first | exact absurd rfl hl | cases h
    | dct ks =>
      cases q with
      | dct ls =>
        obtain ⟨l1, ys1, rfl, k1, m1⟩ := wp
        obtain ⟨l2, ys2, rfl, k2, m2⟩ := wq
        cases r1
        cases r2
        obtain ⟨vs1, a1, c1, d1, n1⟩ := nodup_of I k1
        obtain ⟨vs2, a2, c2, d2, n2⟩ := nodup_of I k2
        obtain ⟨b1, b2, b3, b4⟩ := kv3 m1 c1
        obtain ⟨b1', b2', b3', b4'⟩ := kv3 m2 c2
        have h' : (eqK (eqB true S 100) ls ks).map (fun b => (ks.length == ls.length && b)) = some b := h
        cases hk : eqK (eqB true S 100) ls ks with
        | none => rw [hk] at h'; cases h'
        | some c =>
          rw [hk] at h'
          cases h'
          obtain ⟨f, hf, hc⟩ := eqK_len (by rw [← b2]; exact n1) hk
          have same : ∀ k : Key, (valueAt vs2 k).isSome = (valD ls k).isSome := fun k => by
            rcases b4' k with ⟨q1, q2⟩ | ⟨u, v, d, q1, q2, _⟩ <;> rw [q1, q2] <;> rfl
          have eb : (ks.length == ls.length && c) = (vs1.length == vs2.length && vs1.all fun p => (valueAt vs2 p.1).isSome && f p.1) := by
            rw [b1, b1', hc]
            congr 1
            have e1 : (ks.all fun p => (valD ls p.1).isSome && f p.1) = (ks.map (·.1)).all fun k => (valD ls k).isSome && f k := by rw [List.all_map]; rfl
            have e2 : (vs1.all fun p => (valueAt vs2 p.1).isSome && f p.1) = (vs1.map (·.1)).all fun k => (valueAt vs2 k).isSome && f k := by rw [List.all_map]; rfl
            rw [e1, e2, b2]
            congr 1
            funext k
            rw [same k]
          have post' : EP X pins σ Q (.bool (ks.length == ls.length && c)) s := post
          rw [eb] at post'
          refine PySem.W.eq_dictsT (n := 100) a1 a2 d1 d2 (fun k u y hm hy => ?_) (by omega) post'
          obtain ⟨v, d', q1, q2, q3⟩ := b3 k u hm
          rcases b4' k with ⟨q4, _⟩ | ⟨u', v', d'', q4, q5, q6, q7⟩
          · rw [q4] at hy
            cases hy
          · rw [q4] at hy
            cases hy
            exact eqB_ok I R 100 (hf k d' d'' q1 q5) q2 q6 q3 q7
      | _ => first | exact absurd rfl hl | cases h
    | _ => cases q <;> first | exact absurd rfl hl | cases h
theorem oo_ne {X : Cx} {cl : Str → Option Addr} (hu : X.A.units + 160 < cLine) : OpR X (compareOp .NotEq) (rNeM X.K cl) := by
  intro pins s σ H v w u1 u2 Q I r1 r2 hh
  obtain ⟨β, S, d, e, b, R, hv, hw, h, q⟩ := hh
  have post : EP X pins σ Q (.bool (!b)) s := ⟨.bl (!b), H, I, rfl, q⟩
  have wp := hv.vw R
  have wq := hw.vw R
  unfold neO at h
  by_cases hl : leafW (vw S d) (vw S e) = true
  · exact (leaf_ok I (by omega) r1 r2 _ _ hl wp wq h).2.1 _ _ _ _ post
  · generalize hp : vw S d = p at *
    generalize hq : vw S e = q at *
    cases p with
    | tup ds =>
      cases q with
      | tup es =>
        obtain ⟨l1, xs1, rfl, k1, m1⟩ := wp
        obtain ⟨l2, xs2, rfl, k2, m2⟩ := wq
        cases r1
        cases r2
        obtain ⟨its1, v1, g1, _⟩ := I.tuple k1
        obtain ⟨its2, v2, g2, _⟩ := I.tuple k2
        obtain ⟨z1, i1⟩ := items_at v1 m1
        obtain ⟨z2, i2⟩ := items_at v2 m2
        obtain ⟨f, hf, hb⟩ := eqL_len h
        rw [hb, ← z1, ← z2] at post
        refine SeqAt.RcNeAt.tuples g1 g2 (by omega) (fun j h1 h2 => ?_) _ _ _ _ post
        obtain ⟨v, d', q1, q2, q3⟩ := i1 j h1
        obtain ⟨v', d'', q1', q2', q3'⟩ := i2 j h2
        exact eqP_ok I R 100 (by show X.A.units + 1 + 100 < cLine; omega) (hf j d' d'' q1 q1') q2 q2' q3 q3'
      | _ => first | exact absurd rfl hl | cases h
    | lst ds =>
      cases q with
      | lst es =>
        obtain ⟨l1, xs1, rfl, k1, m1⟩ := wp
        obtain ⟨l2, xs2, rfl, k2, m2⟩ := wq
        cases r1
        cases r2
        obtain ⟨its1, v1, g1, _⟩ := I.list k1
        obtain ⟨its2, v2, g2, _⟩ := I.list k2
        obtain ⟨z1, i1⟩ := items_at v1 m1
        obtain ⟨z2, i2⟩ := items_at v2 m2
        obtain ⟨f, hf, hb⟩ := eqL_len h
        by_cases hz : its1.toArray.size = its2.toArray.size
        · have e1 : b = (List.range its1.toArray.size).all f := by
            rw [hb, ← z1, ← z2, hz]
            simp
          rw [e1] at post
          refine SeqAt.RcNeAt.lists g1.isList g2.isList hz (by omega) (fun j h1 h2 => ?_) _ _ _ _ post
          obtain ⟨v, d', q1, q2, q3⟩ := i1 j h1
          obtain ⟨v', d'', q1', q2', q3'⟩ := i2 j h2
          exact eqP_ok I R 100 (by show X.A.units + 1 + 100 < cLine; omega) (hf j d' d'' q1 q1') q2 q2' q3 q3'
        · have e1 : b = false := by
            rw [hb, ← z1, ← z2]
            have : (its1.toArray.size == its2.toArray.size) = false := beq_eq_false_iff_ne.mpr hz
            rw [this, Bool.and_false]
          rw [e1] at post
          exact SeqAt.RcNeAt.lists_lengths g1.isList g2.isList (bne_iff_ne.mpr hz) (by omega) _ _ _ _ post
      | _ => first | exact absurd rfl hl | cases h
    | dct ks => cases q <;> cases h
    | _ => cases q <;> first | exact absurd rfl hl | cases h
theorem om_eq {G : Gs} : OpM G eqD (rEqM G.K G.cl) := by
  intro W β S H x y d e Q R rx ry h
  unfold eqD at h
  split at h
  · rename_i b hb
    exact ⟨β, S, d, e, b, R, rx, ry, hb, h β H Ex.refl R _ (.bl b)⟩
  · exact h.elim
theorem om_ne {G : Gs} : OpM G neD (rNeM G.K G.cl) := by
  intro W β S H x y d e Q R rx ry h
  unfold neD at h
  split at h
  · rename_i b hb
    exact ⟨β, S, d, e, b, R, rx, ry, hb, h β H Ex.refl R _ (.bl _)⟩
  · exact h.elim
end Mi
namespace Mi
open PySem PySem.Spec PyProof.Rows L2
/-! ### in, not in -/
def keyD : D → Option Key
  | .int i => some (.inl i)
  | .str x => some (.inr x)
  | _ => none
theorem RD.key {K : PySem.W.Frag} {β : List Addr} {H : Hp} {v : V} {d : D} {k : Key} (h : RD K β H v d) (e : keyD d = some k) : v = L2.kV k := by
  cases h <;> first | (cases e; done) | (cases e; rfl)
def kD : Key → D
  | .inl i => .int i
  | .inr x => .str x
theorem rd_key {K : PySem.W.Frag} {β : List Addr} {H : Hp} (k : Key) : RD K β H (L2.kV k) (kD k) := by
  cases k
  · exact .int _
  · exact .str _
/-- is x among the items -/
def inL (f : D → D → Option Bool) (x : D) : List D → Option Bool
  | [] => some false
  | y :: ys => match f y x, inL f x ys with
    | some a, some b => some (a || b)
    | _, _ => none
def lckO (d : D) (S : So) : Option (List (Key × D)) := match d with
  | .ref n => match S[n]? with
    | some (.lck kvs) => some kvs
    | _ => none
  | _ => none
def inO (S : So) (d e : D) : Option Bool := match d, e with
  | .str x, .str y => some (!(Builtin.Str.occurrences y x 0 y.length 1).isEmpty)
  | _, _ => match vw S e with
    | .tup ds => inL (eqB false S 100) d ds
    | .lst ds => inL (eqB false S 100) d ds
    | .dct kvs => (keyD d).map fun k => (valD kvs k).isSome
    | .oth => (lckO e S).bind fun kvs => (keyD d).map fun k => (valD kvs k).isSome
    | _ => none
theorem lkR_rel {K : PySem.W.Frag} {cl : Str → Option Addr} {β : List Addr} {S : So} {H : Hp} (R : Rl K cl β S H) {v : V} {d : D} {kvs : List (Key × D)} (r : RD K β H v d) (h : lckO d S = some kvs) : ∃ a ys, v = .ref a ∧ Rd H a (.dK ys) ∧ RPs K β H ys kvs := by
  unfold lckO at h
  split at h
  · split at h
    · rename_i hs
      cases h
      cases r with
      | ref hn =>
        obtain ⟨ys, o, q1, q2⟩ := R.get hs hn
        exact ⟨_, ys, rfl, .inr ⟨o, q1⟩, q2⟩
    · cases h
  · cases h
theorem valD_rel {K : PySem.W.Frag} {β : List Addr} {H : Hp} {ys : List (Key × V)} {kvs : List (Key × D)} (m : RPs K β H ys kvs) (k : Key) : (valV ys k = none ∧ valD kvs k = none) ∨ ∃ v d, valV ys k = some v ∧ valD kvs k = some d ∧ RD K β H v d := by
  unfold RPs at m
  induction m with
  | nil => exact .inl ⟨rfl, rfl⟩
  | @cons p q ps qs a b ih =>
    obtain ⟨k1, v1⟩ := p
    obtain ⟨k2, d2⟩ := q
    obtain ⟨e1, e2⟩ := a
    simp only at e1 e2
    subst e1
    by_cases hk : k1 = k
    · subst hk
      exact .inr ⟨v1, d2, by simp [valV], by simp [valD], e2⟩
    · have q1 : valV ((k1, v1) :: ps) k = valV ps k := by simp [valV, List.find?_cons, hk]
      have q2 : valD ((k1, d2) :: qs) k = valD qs k := by simp [valD, List.find?_cons, hk]
      rw [q1, q2]
      exact ih
def inD (d e : D) (S : So) : Rs D := match inO S d e with
  | some b => .ok (.bl b) S
  | none => .stuck
def notInD (d e : D) (S : So) : Rs D := match inO S d e with
  | some b => .ok (.bl (!b)) S
  | none => .stuck
def rInM (K : PySem.W.Frag) (cl : Str → Option Addr) (neg : Bool) : R2 := fun x y H Q => ∃ (β : List Addr) (S : So) (d e : D) (b : Bool), Rl K cl β S H ∧ RD K β H x d ∧ RD K β H y e ∧ inO S d e = some b ∧ Q (.bl (if neg then !b else b)) H
section
variable {X : Cx} {pins : List (Addr × Obj)} {σ : Sl} {H : Hp} {s : Shared} {β : List Addr} {S : So} {cl : Str → Option Addr}
open Classical in
/-- what an item is worth against x -/
noncomputable def worthOf (K : PySem.W.Frag) (β : List Addr) (H : Hp) (S : So) (x : D) (u : Value) : Bool := if ∃ v d, RelV v u ∧ RD K β H v d ∧ eqB false S 100 d x = some true then true else false
theorem worth_is (I : Inv X pins σ H s) (R : Rl X.K cl β S H) {x d : D} {v : V} {u : Value} {b : Bool} (ru : RelV v u) (rd : RD X.K β H v d) (h : eqB false S 100 d x = some b) : worthOf X.K β H S x u = b := by
  unfold worthOf
  cases b with
  | true => rw [if_pos ⟨v, d, ru, rd, h⟩]
  | false =>
    rw [if_neg]
    rintro ⟨v', d', r1, r2, r3⟩
    have := r1.inj ru
    subst this
    have := RD.fn I R r2 rd
    subst this
    rw [h] at r3
    cases r3
theorem any_is (I : Inv X pins σ H s) (R : Rl X.K cl β S H) {x : D} : ∀ {xs : List V} {its : List Value} {ds : List D} {b : Bool}, Vals xs its → RDs X.K β H xs ds → inL (eqB false S 100) x ds = some b →
    its.any (worthOf X.K β H S x) = b ∧ ∀ u ∈ its, ∃ v d c, RelV v u ∧ RD X.K β H v d ∧ eqB false S 100 d x = some c ∧ worthOf X.K β H S x u = c
  | _, _, _, b, .nil, .nil, h => by cases h; exact ⟨rfl, fun u hu => by simp at hu⟩
  | _, _, _, b, .cons r1 r2, .cons m1 m2, h => by
    unfold inL at h
    split at h
    · rename_i a c h1 h2
      cases h
      obtain ⟨q1, q2⟩ := any_is I R r2 m2 h2
      have w := worth_is I R r1 m1 h1
      refine ⟨by rw [List.any_cons, w, q1], fun u hu => ?_⟩
      rcases List.mem_cons.mp hu with z | z
      · subst z
        exact ⟨_, _, _, r1, m1, h1, w⟩
      · exact q2 u z
    · cases h
end
theorem oo_in {X : Cx} {cl : Str → Option Addr} (hu : X.A.units + 160 < cLine) : OpR X (compareOp .In) (rInM X.K cl false) := by
  intro pins s σ H v w u1 u2 Q I r1 r2 hh
  obtain ⟨β, S, d, e, b, R, hv, hw, h, q⟩ := hh
  have post : EP X pins σ Q (.bool b) s := ⟨.bl b, H, I, rfl, q⟩
  unfold inO at h
  split at h
  · cases hv
    cases hw
    cases h
    obtain ⟨t, rfl⟩ := r1
    obtain ⟨t', rfl⟩ := r2
    exact in_str post
  · have wq := hw.vw R
    generalize hq : vw S e = p at *
    cases p with
    | tup ds =>
      obtain ⟨l, xs, rfl, k, m⟩ := wq
      cases r2
      obtain ⟨its, v1, g, _⟩ := I.tuple k
      obtain ⟨q1, q2⟩ := any_is I R v1 m h
      refine SeqAt.in_tupleAt (worthOf X.K β H S d) g (fun y hy => ?_) (by simpa [q1] using post)
      obtain ⟨v', d', c, a1, a2, a3, a4⟩ := q2 y (by simpa using hy)
      rw [a4]
      exact eqP_ok I R 100 (by show X.A.units + 1 + 100 < cLine; omega) a3 a2 hv a1 r1
    | lst ds =>
      obtain ⟨l, xs, rfl, k, m⟩ := wq
      cases r2
      obtain ⟨its, v1, g, _⟩ := I.list k
      obtain ⟨q1, q2⟩ := any_is I R v1 m h
      refine SeqAt.in_listAt (worthOf X.K β H S d) g.isList (fun y hy => ?_) (by simpa [q1] using post)
      obtain ⟨v', d', c, a1, a2, a3, a4⟩ := q2 y (by simpa using hy)
      rw [a4]
      exact eqP_ok I R 100 (by show X.A.units + 1 + 100 < cLine; omega) a3 a2 hv a1 r1
    | dct kvs =>
      obtain ⟨l, ys, rfl, k, m⟩ := wq
      cases r2
      have h' : (keyD d).map (fun k => (valD kvs k).isSome) = some b := h
      cases hk : keyD d with
      | none => rw [hk] at h'; cases h'
      | some key =>
        rw [hk] at h'
        cases h'
        have := hv.key hk
        subst this
        obtain ⟨vs, _, kv, _, _⟩ := nodup_of I k
        have e1 : (valV ys key).isSome = (valD kvs key).isSome := by
          have z := (kv.val key).isSome_eq
          rcases (kv3 m kv).2.2.2 key with ⟨c1, c2⟩ | ⟨u, v, d, c1, c2, _⟩ <;> rw [z, c1, c2] <;> rfl
        refine d_in (by omega) I (DGet.k (k := key) k) r1 fun s' I' => ?_
        rw [e1]
        exact ⟨.bl _, H, I', rfl, q⟩
    | oth =>
      have h' : ((lckO e S).bind fun kvs => (keyD d).map fun k => (valD kvs k).isSome) = some b := h
      cases hl : lckO e S with
      | none => rw [hl] at h'; cases h'
      | some kvs =>
        rw [hl] at h'
        have h' : (keyD d).map (fun k => (valD kvs k).isSome) = some b := h'
        cases hk : keyD d with
        | none => rw [hk] at h'; cases h'
        | some key =>
          rw [hk] at h'
          cases h'
          have := hv.key hk
          subst this
          obtain ⟨l, ys, rfl, k, m⟩ := lkR_rel R hw hl
          cases r2
          have e1 : (valV ys key).isSome = (valD kvs key).isSome := by
            rcases valD_rel m key with ⟨c1, c2⟩ | ⟨v, d, c1, c2, _⟩ <;> rw [c1, c2] <;> rfl
          refine d_in (by omega) I (.inl ⟨ys, key, k, rfl, rfl⟩) r1 fun s' I' => ?_
          rw [e1]
          exact ⟨.bl _, H, I', rfl, q⟩
    | _ => cases h
theorem oo_notIn {X : Cx} {cl : Str → Option Addr} (hu : X.A.units + 160 < cLine) : OpR X (compareOp .NotIn) (rInM X.K cl true) := by
  intro pins s σ H v w u1 u2 Q I r1 r2 hh
  obtain ⟨β, S, d, e, b, R, hv, hw, h, q⟩ := hh
  have post : EP X pins σ Q (.bool (!b)) s := ⟨.bl (!b), H, I, rfl, q⟩
  unfold inO at h
  split at h
  · cases hv
    cases hw
    cases h
    obtain ⟨t, rfl⟩ := r1
    obtain ⟨t', rfl⟩ := r2
    exact notIn_str post
  · have wq := hw.vw R
    generalize hq : vw S e = p at *
    cases p with
    | tup ds =>
      obtain ⟨l, xs, rfl, k, m⟩ := wq
      cases r2
      obtain ⟨its, v1, g, _⟩ := I.tuple k
      obtain ⟨q1, q2⟩ := any_is I R v1 m h
      refine SeqAt.notIn_tupleAt (worthOf X.K β H S d) g (fun y hy => ?_) (by simpa [q1] using post)
      obtain ⟨v', d', c, a1, a2, a3, a4⟩ := q2 y (by simpa using hy)
      rw [a4]
      exact eqP_ok I R 100 (by show X.A.units + 1 + 100 < cLine; omega) a3 a2 hv a1 r1
    | lst ds =>
      obtain ⟨l, xs, rfl, k, m⟩ := wq
      cases r2
      obtain ⟨its, v1, g, _⟩ := I.list k
      obtain ⟨q1, q2⟩ := any_is I R v1 m h
      refine SeqAt.notIn_listAt (worthOf X.K β H S d) g.isList (fun y hy => ?_) (by simpa [q1] using post)
      obtain ⟨v', d', c, a1, a2, a3, a4⟩ := q2 y (by simpa using hy)
      rw [a4]
      exact eqP_ok I R 100 (by show X.A.units + 1 + 100 < cLine; omega) a3 a2 hv a1 r1
    | dct kvs =>
      obtain ⟨l, ys, rfl, k, m⟩ := wq
      cases r2
      have h' : (keyD d).map (fun k => (valD kvs k).isSome) = some b := h
      cases hk : keyD d with
      | none => rw [hk] at h'; cases h'
      | some key =>
        rw [hk] at h'
        cases h'
        have := hv.key hk
        subst this
        obtain ⟨vs, _, kv, _, _⟩ := nodup_of I k
        have e1 : (valV ys key).isSome = (valD kvs key).isSome := by
          have z := (kv.val key).isSome_eq
          rcases (kv3 m kv).2.2.2 key with ⟨c1, c2⟩ | ⟨u, v, d, c1, c2, _⟩ <;> rw [z, c1, c2] <;> rfl
        refine d_notIn (by omega) I (DGet.k (k := key) k) r1 fun s' I' => ?_
        rw [e1]
        exact ⟨.bl _, H, I', rfl, q⟩
    | oth =>
      have h' : ((lckO e S).bind fun kvs => (keyD d).map fun k => (valD kvs k).isSome) = some b := h
      cases hl : lckO e S with
      | none => rw [hl] at h'; cases h'
      | some kvs =>
        rw [hl] at h'
        have h' : (keyD d).map (fun k => (valD kvs k).isSome) = some b := h'
        cases hk : keyD d with
        | none => rw [hk] at h'; cases h'
        | some key =>
          rw [hk] at h'
          cases h'
          have := hv.key hk
          subst this
          obtain ⟨l, ys, rfl, k, m⟩ := lkR_rel R hw hl
          cases r2
          have e1 : (valV ys key).isSome = (valD kvs key).isSome := by
            rcases valD_rel m key with ⟨c1, c2⟩ | ⟨v, d, c1, c2, _⟩ <;> rw [c1, c2] <;> rfl
          refine d_notIn (by omega) I (.inl ⟨ys, key, k, rfl, rfl⟩) r1 fun s' I' => ?_
          rw [e1]
          exact ⟨.bl _, H, I', rfl, q⟩
    | _ => cases h
theorem om_in {G : Gs} : OpM G inD (rInM G.K G.cl false) := by
  intro W β S H x y d e Q R rx ry h
  unfold inD at h
  split at h
  · rename_i b hb
    exact ⟨β, S, d, e, b, R, rx, ry, hb, h β H Ex.refl R _ (.bl b)⟩
  · exact h.elim
theorem om_notIn {G : Gs} : OpM G notInD (rInM G.K G.cl true) := by
  intro W β S H x y d e Q R rx ry h
  unfold notInD at h
  split at h
  · rename_i b hb
    exact ⟨β, S, d, e, b, R, rx, ry, hb, h β H Ex.refl R _ (.bl _)⟩
  · exact h.elim

/-! ### subscripts -/
def ixO (S : So) (d e : D) : Option D := match d, e with
  | .str x, .int i => if x.length ≤ lim then (atI x.cps.toList i).map fun c => .str ⟨#[c]⟩ else none
  | _, _ => match vw S d, e with
    | .tup ds, .int i => atI ds i
    | .lst ds, .int i => atI ds i
    | .dct kvs, _ => (keyD e).bind fun k => valD kvs k
    | .oth, _ => (lckO d S).bind fun kvs => (keyD e).bind fun k => valD kvs k
    | _, _ => none
def ixD (d e : D) (S : So) : Rs D := match ixO S d e with
  | some z => .ok z S
  | none => .stuck
def rIxD : R2 := fun x y H Q => ∃ a v, x = .ref a ∧ DGet H a y (some v) ∧ Q v H
theorem ix_dict {X : Cx} (hu : X.A.units + 1 < cLine) : IxR X rIxD := by
  intro value slice pins s σ H x y v u Q I rx ry h hs
  obtain ⟨a, z, rfl, g, q⟩ := h
  cases rx
  have hT := dict_typeIs I g
  unfold subscriptTail
  refine wpAny_bind ?_
  rw [getitemInPython_of_ne hT.not_modules]
  refine wpAny_bind (wpAny_specialOf hT PySem.F.slot_dict_getitem.lookup ?_)
  have fin : wpAny (model X.prog X.w) X.A (subscripted slice false (.ref a) u) (fun r s₃ => wpAny (model X.prog X.w) X.A (letTemporaryGo value (.ref a) r >>= fun _ => pure r) (EP X pins σ Q) X.xe s₃) X.xe s := by
    rw [hs]
    exact wpAny_operating (d_getItem hu I g ry fun w' s' I' r' => wpAny_bind (wpAny_letTemporaryGo (wpAny_pure ⟨z, H, I', r', q⟩)))
  first
    | exact wpAny_pure (wpAny_bind fin)
    | exact wpAny_bind (wpAny_pure (wpAny_bind fin))
    | exact wpAny_bind fin
theorem oi_any {X : Cx} (hu : X.A.units + 160 < cLine) : IxR X (fun x y H Q => rIx X.K x y H Q ∨ rIxD x y H Q) := ix_seq.or (ix_dict (by omega))
theorem atI_rel {K : PySem.W.Frag} {β : List Addr} {H : Hp} {xs : List V} {ds : List D} (m : RDs K β H xs ds) {i : Int} {d : D} (h : atI ds i = some d) : ∃ v, atI xs i = some v ∧ RD K β H v d := by
  unfold atI at h ⊢
  rw [m.length]
  cases hj : ixN ds.length i with
  | none => rw [hj] at h; cases h
  | some j =>
    rw [hj] at h
    exact m.get h
theorem om_ix {G : Gs} : OpM G ixD (fun x y H Q => rIx G.K x y H Q ∨ rIxD x y H Q) := by
  intro W β S H x y d e Q R rx ry h
  unfold ixD at h
  split at h
  · rename_i z hz
    unfold ixO at hz
    split at hz
    · cases rx
      cases ry
      split at hz
      · rename_i x i hl
        cases hc : atI x.cps.toList i with
        | none => rw [hc] at hz; cases hz
        | some c =>
          rw [hc] at hz
          cases hz
          exact .inl (.inr (.inr ⟨_, _, c, rfl, rfl, lim_le hl, hc, h β H Ex.refl R _ (.str _)⟩))
      · cases hz
    · have wp := rx.vw R
      generalize hp : vw S d = p at *
      split at hz
      · cases ry
        obtain ⟨l, xs, rfl, k, m⟩ := wp
        obtain ⟨v, h1, h2⟩ := atI_rel m hz
        exact .inl (.inr (.inl ⟨l, xs, _, v, rfl, rfl, k, h1, h β H Ex.refl R _ h2⟩))
      · cases ry
        obtain ⟨l, xs, rfl, k, m⟩ := wp
        obtain ⟨v, h1, h2⟩ := atI_rel m hz
        exact .inl (.inl ⟨l, xs, _, v, rfl, rfl, k, h1, h β H Ex.refl R _ h2⟩)
      · obtain ⟨l, ys, rfl, k, m⟩ := wp
        cases hk : keyD e with
        | none => rw [hk] at hz; cases hz
        | some key =>
          rw [hk] at hz
          have := ry.key hk
          subst this
          have hz' : valD _ key = some z := hz
          rcases valD_rel m key with ⟨_, c2⟩ | ⟨v, d', c1, c2, c3⟩
          · rw [c2] at hz'; cases hz'
          · rw [c2] at hz'
            cases hz'
            exact .inr ⟨l, v, rfl, by rw [← c1]; exact DGet.k k, h β H Ex.refl R _ c3⟩
      · cases hl : lckO d S with
        | none => rw [hl] at hz; cases hz
        | some kvs =>
          rw [hl] at hz
          obtain ⟨l, ys, rfl, k, m⟩ := lkR_rel R rx hl
          cases hk : keyD e with
          | none => rw [hk] at hz; cases hz
          | some key =>
            rw [hk] at hz
            have := ry.key hk
            subst this
            have hz' : valD _ key = some z := hz
            rcases valD_rel m key with ⟨_, c2⟩ | ⟨v, d', c1, c2, c3⟩
            · rw [c2] at hz'; cases hz'
            · rw [c2] at hz'
              cases hz'
              exact .inr ⟨l, v, rfl, .inl ⟨ys, key, k, rfl, c1.symm⟩, h β H Ex.refl R _ c3⟩
      · cases hz
  · exact h.elim
section
variable {X : Cx} {G : Gs} {W : WX} {a b : Expr} {ma mb : ME} {pos p2 : Pos}
theorem ce_ix (hu : X.A.units + 160 < cLine) (hK : X.K = G.K) (ha : PE X a (tM G W ma)) (hb : PE X b (tM G W mb)) (hs : PlainIx b) : PE X (.Subscript a b pos) (tM G W (m2 ixD ma mb)) := by
  have := pe_ix (oi_any hu) ha hb hs (pos := pos)
  rw [hK] at this
  exact pe_imp this fun _ _ _ h => tM_op om_ix h

/-! ### slices -/
abbrev MO := Ro → So → Rs (Option Int)
def tO (G : Gs) (W : WX) (m : MO) : TO := fun σ H Q => ∃ β ρ S, Rl G.K G.cl β S H ∧ RVs G β H σ ρ ∧ Gd G W β H (m ρ S) fun o _ _ H' => Q o H'
def mNoPart : MO := fun _ S => .ok none S
def mPart (m : ME) : MO := fun ρ S => (m ρ S).bind fun d S1 => match d with
  | .int i => .ok (some i) S1
  | _ => .stuck
theorem po_imp {e : Option Expr} {t t' : TO} (h : PO X e t) (hi : ∀ σ H Q, t' σ H Q → t σ H Q) : PO X e t' := ⟨fun pins s σ H Q I q => h.run pins s σ H Q I (hi σ H Q q)⟩
theorem co_none : PO X none (tO G W mNoPart) := po_imp po_none fun σ H Q h => by
  obtain ⟨β, ρ, S, R, V, h⟩ := h
  exact h β H Ex.refl R
theorem co_some (ha : PE X a (tM G W ma)) : PO X (some a) (tO G W (mPart ma)) := po_imp (po_some ha) fun σ H Q h => by
  obtain ⟨β, ρ, S, R, V, h⟩ := h
  refine ⟨β, ρ, S, R, V, h.bind.imp fun d S1 β1 H1 e1 R1 h1 x rx => ?_⟩
  split at h1
  · cases rx
    exact ⟨_, rfl, h1 β1 H1 Ex.refl R1⟩
  · exact h1.elim
def cutD (ds : List D) (lo hi : Option Int) : List D := (ds.drop (HT.sIx ds.length 0 lo)).take (HT.sIx ds.length ds.length hi - HT.sIx ds.length 0 lo)
def slD (d : D) (lo hi : Option Int) (S : So) : Rs D := match d with
  | .str x => if x.length ≤ lim then .ok (.str (cutS x lo hi)) S else .stuck
  | _ => match vw S d with
    | .tup ds => .ok (.tup (cutD ds lo hi)) S
    | .lst ds => .ok (.ref S.length) (S ++ [.lst (cutD ds lo hi)])
    | _ => .stuck
def mSl (m : ME) (ml mh : MO) : ME := fun ρ S => (m ρ S).bind fun d S1 => (ml ρ S1).bind fun l S2 => (mh ρ S2).bind fun u S3 => slD d l u S3
theorem cut_rel {K : PySem.W.Frag} {β : List Addr} {H : Hp} {xs : List V} {ds : List D} (m : RDs K β H xs ds) (lo hi : Option Int) : RDs K β H (cutV xs lo hi) (cutD ds lo hi) := by
  unfold cutV cutD
  rw [m.length]
  exact (m.drop _).take _
theorem cut_all {ds : List D} {lo hi : Option Int} (h : HT.sIx ds.length 0 lo = 0 ∧ HT.sIx ds.length ds.length hi = ds.length) : cutD ds lo hi = ds := by
  unfold cutD
  rw [h.1, h.2]
  simp
theorem last_of {β : List Addr} {S : So} {p : Addr} (h : β.length = S.length) : (β ++ [p])[S.length]? = some p := by
  rw [← h, List.getElem?_append_right (Nat.le_refl _)]
  simp
theorem ce_slice {lo hi : Option Expr} {ml mh : MO} (hK : X.K = G.K) (ha : PE X a (tM G W ma)) (hl : PO X lo (tO G W ml)) (hh : PO X hi (tO G W mh)) : PE X (.Subscript a (.Slice lo hi none p2) pos) (tM G W (mSl ma ml mh)) := by
  refine pe_imp (pe_slice (sl_tupA.or (sl_list.or sl_str)) ha hl hh) fun σ H Q h => ?_
  obtain ⟨β, ρ, S, R, V, h⟩ := h
  refine ⟨β, ρ, S, R, V, h.bind.imp fun d S1 β1 H1 e1 R1 h1 x rx => ?_⟩
  refine ⟨β1, ρ, S1, R1, V.mono e1, h1.bind.imp fun l S2 β2 H2 e2 R2 h2 => ?_⟩
  refine ⟨β2, ρ, S2, R2, V.mono (e1.trans e2), h2.bind.imp fun u S3 β3 H3 e3 R3 h3 => ?_⟩
  have rx3 := rx.mono (e2.trans e3).toEw
  unfold slD at h3
  split at h3
  · cases rx
    split at h3
    · rename_i hc
      exact .inr (.inr ⟨_, rfl, lim_le hc, h3 β3 H3 Ex.refl R3 _ (.str _)⟩)
    · exact h3.elim
  · have wp := rx3.vw R3
    generalize hp : vw S3 d = p at *
    split at h3
    · obtain ⟨t, xs, rfl, k, m⟩ := wp
      refine .inl ⟨t, xs, rfl, by rw [hK]; exact k, fun hc => ?_, fun _ p hp => ?_⟩
      · rw [m.length] at hc
        refine h3 β3 H3 Ex.refl R3 _ ?_
        rw [cut_all hc]
        exact .tup k m
      · exact h3 _ _ (Ex.fresh hp) (R3.fresh hp) _ (.tup (.inl (.inl upd_same)) ((cut_rel m _ _).mono (Ex.fresh hp).toEw))
    · obtain ⟨t, xs, rfl, k, m⟩ := wp
      refine .inr (.inl ⟨t, xs, rfl, by rw [hK]; exact k, fun p hp => ?_⟩)
      exact h3 (β3 ++ [p]) _ (Ex.new hp) (R3.new hp ⟨_, upd_same, (cut_rel m _ _).mono (Ex.new hp).toEw⟩) _ (.ref (last_of R3.len))
    · exact h3.elim

/-! ### lists of arguments, displays -/
def mNilA : MA := fun _ S => .ok [] S
def mConsA (m : ME) (ma : MA) : MA := fun ρ S => (m ρ S).bind fun d S1 => (ma ρ S1).bind fun ds S2 => .ok (d :: ds) S2
theorem ca_nil : PA X [] (tA G W mNilA) := pa_imp pa_nil fun σ H Q h => by
  obtain ⟨β, ρ, S, R, V, h⟩ := h
  exact h β H Ex.refl R _ .nil
theorem ca_cons {e : Expr} {es : List Expr} {m : ME} {mr : MA} (he : PE X e (tM G W m)) (hr : PA X es (tA G W mr)) (hs : starEach (e :: es) X.env = (false, eval e X.env) :: starEach es X.env := by rfl) : PA X (e :: es) (tA G W (mConsA m mr)) :=
  pa_imp (pa_cons he hr hs) fun σ H Q h => by
    obtain ⟨β, ρ, S, R, V, h⟩ := h
    refine ⟨β, ρ, S, R, V, h.bind.imp fun d S1 β1 H1 e1 R1 h1 x rx => ?_⟩
    refine ⟨β1, ρ, S1, R1, V.mono e1, h1.bind.imp fun ds S2 β2 H2 e2 R2 h2 xs rs => ?_⟩
    exact h2 β2 H2 Ex.refl R2 _ (.cons (rx.mono e2) rs)
def mTup (ma : MA) : ME := fun ρ S => (ma ρ S).bind fun ds S1 => if ds.length ≤ lim then .ok (.tup ds) S1 else .stuck
def mLst (ma : MA) : ME := fun ρ S => (ma ρ S).bind fun ds S1 => if ds.length ≤ lim then .ok (.ref S1.length) (S1 ++ [.lst ds]) else .stuck
theorem ce_tup {es : List Expr} {mr : MA} {x1} (h : PA X es (tA G W mr)) : PE X (.Tuple es x1 pos) (tM G W (mTup mr)) := pe_imp (pe_tup h) fun σ H Q h => by
  obtain ⟨β, ρ, S, R, V, h⟩ := h
  refine ⟨β, ρ, S, R, V, h.bind.imp fun ds S1 β1 H1 e1 R1 h1 xs rs => ?_⟩
  split at h1
  · rename_i hc
    refine ⟨by rw [rs.length]; exact lim_le hc, fun p hp => ?_⟩
    exact h1 _ _ (Ex.fresh hp) (R1.fresh hp) _ (.tup (.inl (.inl upd_same)) (rs.mono (Ex.fresh hp).toEw))
  · exact h1.elim
theorem ce_lst {es : List Expr} {mr : MA} (h : PA X es (tA G W mr)) : PE X (.List es pos) (tM G W (mLst mr)) := pe_imp (pe_lst h) fun σ H Q h => by
  obtain ⟨β, ρ, S, R, V, h⟩ := h
  refine ⟨β, ρ, S, R, V, h.bind.imp fun ds S1 β1 H1 e1 R1 h1 xs rs => ?_⟩
  split at h1
  · rename_i hc
    refine ⟨by rw [rs.length]; exact lim_le hc, fun p hp => ?_⟩
    exact h1 (β1 ++ [p]) _ (Ex.new hp) (R1.new hp ⟨_, upd_same, rs.mono (Ex.new hp).toEw⟩) _ (.ref (last_of R1.len))
  · exact h1.elim
def mDict0 : ME := fun _ S => .ok (.ref S.length) (S ++ [.dct []])
theorem ce_dict0 : PE X (.Dict [] [] pos) (tM G W mDict0) := pe_imp pe_dnewK fun σ H Q h => by
  obtain ⟨β, ρ, S, R, V, h⟩ := h
  intro p hp
  exact h (β ++ [p]) _ (Ex.new hp) (R.new hp ⟨[], upd_same, .nil⟩) _ (.ref (last_of R.len))
end
end Mi
namespace Mi
open PySem PySem.Spec PyProof.Rows L2
/-! ### targets -/
abbrev Bnd := D → Ro → Option Ro
def BindM (G : Gs) (b : Bnd) (g : TG) : Prop := ∀ (β : List Addr) (S : So) (H : Hp) (σ : Sl) (ρ ρ' : Ro) (v : V) (d : D) (Q : Sl → Hp → Prop), Rl G.K G.cl β S H → RVs G β H σ ρ → RD G.K β H v d → b d ρ = some ρ' →
  (∀ σ', RVs G β H σ' ρ' → Q σ' H) → g v σ H Q
def bN (i : Nat) : Bnd := fun d ρ => some (ρ.set i (some d))
def bL : List Nat → List D → Ro → Option Ro
  | [], [], ρ => some ρ
  | i :: is, d :: ds, ρ => bL is ds (ρ.set i (some d))
  | _, _, _ => none
def bT (is : List Nat) : Bnd := fun d ρ => match d with
  | .tup ds => bL is ds ρ
  | _ => none
def gL : List Nat → TGs
  | [] => gNil
  | i :: is => gCons (gName i) (gL is)
def noFx (G : Gs) (i : Nat) : Prop := ∀ p ∈ G.fx, p.1 ≠ i
theorem bm_name {G : Gs} {i : Nat} (hf : noFx G i) : BindM G (bN i) (gName i) := by
  intro β S H σ ρ ρ' v d Q R V r e h
  cases e
  exact h _ (V.set r hf)
theorem bm_list {G : Gs} {β : List Addr} {H : Hp} : ∀ (is : List Nat) (_ : ∀ i ∈ is, noFx G i) (ds : List D) (vs : List V) (σ : Sl) (ρ ρ' : Ro) (Q : Sl → Hp → Prop), RVs G β H σ ρ → RDs G.K β H vs ds → bL is ds ρ = some ρ' →
    (∀ σ', RVs G β H σ' ρ' → Q σ' H) → gL is vs σ H Q
  | [], _, [], vs, σ, ρ, ρ', Q, V, r, e, h => by
    cases r
    cases e
    exact ⟨rfl, h _ V⟩
  | i :: is, hf, d :: ds, vs, σ, ρ, ρ', Q, V, r, e, h => by
    cases r with
    | cons r1 r2 =>
      refine ⟨_, _, rfl, ?_⟩
      exact bm_list is (fun j hj => hf j (List.mem_cons_of_mem _ hj)) ds _ _ _ ρ' Q (V.set r1 (hf i List.mem_cons_self)) r2 e h
  | [], _, _ :: _, _, _, _, _, _, _, _, e, _ => by cases e
  | _ :: _, _, [], _, _, _, _, _, _, _, e, _ => by cases e
theorem bL_len : ∀ {is : List Nat} {ds : List D} {ρ ρ' : Ro}, bL is ds ρ = some ρ' → ds.length = is.length
  | [], [], _, _, _ => rfl
  | i :: is, d :: ds, ρ, ρ', e => by
    have := bL_len (is := is) (ds := ds) (ρ := ρ.set i (some d)) (ρ' := ρ') e
    simp [this]
  | [], _ :: _, _, _, e => by cases e
  | _ :: _, [], _, _, e => by cases e
theorem bm_tup {G : Gs} {is : List Nat} {n : Nat} (hn : is.length = n) (hf : ∀ i ∈ is, noFx G i) : BindM G (bT is) (gTup G.K n (gL is)) := by
  intro β S H σ ρ ρ' v d Q R V r e h
  unfold bT at e
  split at e
  · cases r with
    | tup q m =>
      refine ⟨_, _, rfl, q, ?_, bm_list is hf _ _ σ ρ ρ' Q V m e h⟩
      rw [m.length, bL_len e, hn]
  · cases e

/-! ### blocks -/
section
variable {X : Cx} {G : Gs} {W : WX} {a b : Expr} {m ma mb : ME} {mt : MT} {s1 s2 : MS} {st : Stmt} {rest : List Stmt} {pos pos' : Pos}
def mSeq (s1 s2 : MS) : MS := fun ρ S => (s1 ρ S).bind fun p S1 => match p.1 with
  | .nx => s2 p.2 S1
  | _ => .ok p S1
def mSkip : MS := fun ρ S => .ok (.nx, ρ) S
theorem kS_other {D : Ends} {D' : Ends} {p : Fl × Ro} {S : So} {β : List Addr} {H : Hp} (hp : p.1 ≠ .nx) (hb : D'.bk = D.bk) (hc : D'.ct = D.ct) (hr : D'.rt = D.rt) (h : kS G D p S β H) : kS G D' p S β H := by
  obtain ⟨f, ρ⟩ := p
  cases f with
  | nx => exact absurd rfl hp
  | bk => intro σ V; rw [hb]; exact h σ V
  | ct => intro σ V; rw [hc]; exact h σ V
  | rt d => intro v r; rw [hr]; exact h v r
theorem Gd.ok_at {α : Type} {β : List Addr} {H : Hp} {x : α} {S : So} {k : α → So → List Addr → Hp → Prop} (h : Gd G W β H (.ok x S) k) (R : Rl G.K G.cl β S H) : k x S β H := h β H Ex.refl R
theorem sM_seq {D : Ends} {σ : Sl} {H : Hp} (h : sM G W (mSeq s1 s2) D σ H) : tSeq (sM G W s1) (sM G W s2) D σ H := by
  obtain ⟨β, ρ, S, R, V, h⟩ := h
  refine ⟨β, ρ, S, R, V, h.bind.imp fun p S1 β1 H1 e1 R1 h1 => ?_⟩
  obtain ⟨f, ρ1⟩ := p
  cases f with
  | nx => exact fun σ' V' => ⟨β1, ρ1, S1, R1, V', h1⟩
  | bk => exact h1.ok_at R1
  | ct => exact h1.ok_at R1
  | rt d => exact h1.ok_at R1
theorem css_nil : PSs X [] (sM G W mSkip) := pss_imp pss_nil fun D σ H h => by
  obtain ⟨β, ρ, S, R, V, h⟩ := h
  exact h.ok_at R σ V
theorem css_cons (h1 : PS X st (sM G W s1)) (h2 : PSs X rest (sM G W s2)) : PSs X (st :: rest) (sM G W (mSeq s1 s2)) := pss_imp (pss_cons h1 h2) fun _ _ _ h => sM_seq h
theorem css_one (h1 : PS X st (sM G W s1)) : PSs X [st] (sM G W s1) := pss_one h1
theorem cs_pass : PS X (.Pass pos) (sM G W mSkip) := ps_imp ps_pass fun D σ H h => by
  obtain ⟨β, ρ, S, R, V, h⟩ := h
  exact h.ok_at R σ V
def mBk : MS := fun ρ S => .ok (.bk, ρ) S
def mCt : MS := fun ρ S => .ok (.ct, ρ) S
theorem cs_break : PS X (.Break pos) (sM G W mBk) := ps_imp ps_break fun D σ H h => by
  obtain ⟨β, ρ, S, R, V, h⟩ := h
  exact h.ok_at R σ V
theorem cs_continue : PS X (.Continue pos) (sM G W mCt) := ps_imp ps_continue fun D σ H h => by
  obtain ⟨β, ρ, S, R, V, h⟩ := h
  exact h.ok_at R σ V
/-- code that is never come to -/
def mNever : MS := fun _ _ => .stuck
theorem cs_never : PS X st (sM G W mNever) := ps_imp ps_never fun D σ H h => by
  obtain ⟨β, ρ, S, R, V, h⟩ := h
  exact h
def mDrop (m : ME) : MS := fun ρ S => (m ρ S).bind fun _ S1 => .ok (.nx, ρ) S1
theorem cs_expr (ha : PE X a (tM G W ma)) (hs : swapsWith a none pos.line X.env = pure false := by rfl) : PS X (.Expr a pos) (sM G W (mDrop ma)) := ps_imp (ps_expr ha hs) fun D σ H h => by
  obtain ⟨β, ρ, S, R, V, h⟩ := h
  exact ⟨β, ρ, S, R, V, h.bind.imp fun d S1 β1 H1 e1 R1 h1 v rv => h1.ok_at R1 σ (V.mono e1)⟩
def mRet (m : ME) : MS := fun ρ S => (m ρ S).bind fun d S1 => .ok (.rt d, ρ) S1
theorem cs_ret (ha : PE X a (tM G W ma)) : PS X (.Return (some a) pos) (sM G W (mRet ma)) := ps_imp (ps_ret ha) fun D σ H h => by
  obtain ⟨β, ρ, S, R, V, h⟩ := h
  exact ⟨β, ρ, S, R, V, h.bind.imp fun d S1 β1 H1 e1 R1 h1 v rv => h1.ok_at R1 v rv⟩
def mRetN : MS := fun ρ S => .ok (.rt .non, ρ) S
theorem cs_retN : PS X (.Return none pos) (sM G W mRetN) := ps_imp ps_retN fun D σ H h => by
  obtain ⟨β, ρ, S, R, V, h⟩ := h
  exact h.ok_at R .non .non
def mIf (mt : MT) (s1 s2 : MS) : MS := fun ρ S => (mt ρ S).bind fun c S1 => if c then s1 ρ S1 else s2 ρ S1
theorem cs_if {c : Expr} {x y : List Stmt} (hc : PT X c (tT G W mt)) (ha : PSs X x (sM G W s1)) (hb : PSs X y (sM G W s2)) : PS X (.If c x y pos) (sM G W (mIf mt s1 s2)) := ps_imp (ps_if hc ha hb) fun D σ H h => by
  obtain ⟨β, ρ, S, R, V, h⟩ := h
  refine ⟨β, ρ, S, R, V, h.bind.imp fun c S1 β1 H1 e1 R1 h1 => ?_⟩
  cases c with
  | true => exact ⟨β1, ρ, S1, R1, V.mono e1, h1⟩
  | false => exact ⟨β1, ρ, S1, R1, V.mono e1, h1⟩

/-! ### assignments -/
def mAsg (m : ME) (b : Bnd) : MS := fun ρ S => (m ρ S).bind fun d S1 => match b d ρ with
  | some ρ' => .ok (.nx, ρ') S1
  | none => .stuck
theorem sM_asg {g : TG} {bn : Bnd} (hb : BindM G bn g) {D : Ends} {σ : Sl} {H : Hp} (h : sM G W (mAsg m bn) D σ H) : tAsg (tM G W m) g D σ H := by
  obtain ⟨β, ρ, S, R, V, h⟩ := h
  refine ⟨β, ρ, S, R, V, h.bind.imp fun d S1 β1 H1 e1 R1 h1 v rv => ?_⟩
  split at h1
  · rename_i ρ' e
    exact hb β1 S1 H1 σ ρ ρ' v d _ R1 (V.mono e1) rv e (h1.ok_at R1)
  · exact h1.elim
/-- x = e -/
theorem cs_set (i : Nat) {x : Str} (hN : X.N.Nodup) (hf : noFx G i) (ha : PE X a (tM G W ma)) (hi : X.N[i]? = some x := by rfl) (hx : Loc X.env.scope x := by first | exact Or.inl rfl | exact Or.inr rfl)
    (hs : swapsWith a (some (.Name x pos')) pos.line X.env = pure false := by rfl) (hc : X.fn x = true ∨ X.env.scope.names.lookup x = some .local := by first | exact .inl rfl | exact .inr rfl | assumption) :
    PS X (.Assign [.Name x pos'] a pos) (sM G W (mAsg ma (bN i))) := ps_imp (ps_set hN hi hx ha hs hc) fun _ _ _ h => sM_asg (bm_name hf) h
/-- any target -/
theorem cs_asg {tg : Expr} {g : TG} {bn : Bnd} (hb : BindM G bn g) (ha : PE X a (tM G W ma)) (hg : PG X tg g) (hs : swapsWithSole [tg] a pos.line X.env = pure false := by rfl) (hw : swappedStores [tg] a X.env = pure none := by rfl)
    (h1 : (assignEach [tg] X.env).map (·.2) = [assign tg X.env] := by rfl) : PS X (.Assign [tg] a pos) (sM G W (mAsg ma bn)) := ps_imp (ps_asg ha hg hs hw h1) fun _ _ _ h => sM_asg hb h
/-- x op= e -/
def mAug (i : Nat) (f : D → D → So → Rs D) (m : ME) : MS := fun ρ S => match ρ[i]? with
  | some (some d) => (m ρ S).bind fun e S1 => (f d e S1).bind fun z S2 => .ok (.nx, ρ.set i (some z)) S2
  | _ => .stuck
theorem cs_aug (i : Nat) {x : Str} {op : Operator} {r : R2} {f : D → D → So → Rs D} (hN : X.N.Nodup) (hf : noFx G i) (ho : OpR X (inplaceOp op) r) (hm : OpM G f r) (ha : PE X a (tM G W ma)) (hi : X.N[i]? = some x := by rfl) (hx : Loc X.env.scope x := by first | exact Or.inl rfl | exact Or.inr rfl)
    (hc : X.fn x = true ∨ X.env.scope.names.lookup x = some .local := by first | exact .inl rfl | exact .inr rfl | assumption) :
    PS X (.AugAssign (.Name x pos') op a pos) (sM G W (mAug i f ma)) := ps_imp (ps_aug hN hi hx ha (fun pins s σ H x y v u Q I r1 r2 h => ho pins s σ H x y v u Q I r1 r2 h) hc) fun D σ H h => by
  obtain ⟨β, ρ, S, R, V, h⟩ := h
  unfold mAug at h
  split at h
  · rename_i d e
    obtain ⟨v, hv, rv⟩ := V.slot i d e
    refine ⟨v, hv, β, ρ, S, R, V, h.bind.imp fun d2 S1 β1 H1 e1 R1 h1 y ry => ?_⟩
    refine hm W β1 S1 H1 v y d d2 _ R1 (rv.mono e1) ry (h1.bind.imp fun z S2 β2 H2 e2 R2 h2 w rw' => ?_)
    exact h2.ok_at R2 _ ((V.mono (e1.trans e2)).set rw' hf)
  · exact h.elim
/-- o[i] = e by values -/
def SetM (G : Gs) (f : D → D → D → So → Rs Unit) (t : TSet) : Prop := ∀ (W : WX) (β : List Addr) (S : So) (H : Hp) (o i v : V) (d e z : D) (Q : Hp → Prop), Rl G.K G.cl β S H → RD G.K β H o d → RD G.K β H i e → RD G.K β H v z →
  Gd G W β H (f d e z S) (fun _ S' β' H' => Q H') → t o i v H Q
def mStore (f : D → D → D → So → Rs Unit) (mo mi mv : ME) : MS := fun ρ S => (mv ρ S).bind fun z S1 => (mo ρ S1).bind fun d S2 => (mi ρ S2).bind fun e S3 => (f d e z S3).bind fun _ S4 => .ok (.nx, ρ) S4
/-- xs[i] = v, d[k] = v -/
def setL (m : Nat) (ds : List D) (i : Int) (z : D) (S : So) : Rs Unit := match ixN ds.length i with
  | some j => .ok () (S.set m (.lst (ds.set j z)))
  | none => .stuck
def putD (kvs : List (Key × D)) (k : Key) (v : D) : List (Key × D) :=
  if (kvs.any fun kv => decide (kv.1 = k)) then kvs.map fun kv => if kv.1 = k then (kv.1, v) else kv else kvs ++ [(k, v)]
def setD (d e z : D) (S : So) : Rs Unit := match d with
  | .ref m => match S[m]?, e with
    | some (.lst ds), .int i => setL m ds i z S
    | some (.dct kvs), _ => match keyD e with
      | some k => if kvs.length < lim then .ok () (S.set m (.dct (putD kvs k z))) else .stuck
      | none => .stuck
    | _, _ => .stuck
  | _ => .stuck
def rSetD : TSet := fun o i v H Q => ∃ a H', o = .ref a ∧ DPut H a i v H' ∧ Q H'
theorem set_dict (hu : X.A.units + 1 < cLine) : PSet X rSetD := by
  intro pins s σ H o i v ov iv u Q I ro ri rv h
  obtain ⟨a, H', rfl, g, q⟩ := h
  cases ro
  exact d_setItem hu I g ri rv fun s' I' => ⟨H', I', q⟩
theorem PSet.or {t t' : TSet} (h : PSet X t) (h' : PSet X t') : PSet X (fun o i v H Q => t o i v H Q ∨ t' o i v H Q) := by
  intro pins s σ H o i v ov iv u Q I ro ri rv q
  rcases q with q | q
  · exact h pins s σ H o i v ov iv u Q I ro ri rv q
  · exact h' pins s σ H o i v ov iv u Q I ro ri rv q
theorem os_any (hu : X.A.units + 160 < cLine) : PSet X (fun o i v H Q => rSetL o i v H Q ∨ rSetD o i v H Q) := PSet.or set_list (set_dict (by omega))
theorem put_rel {K : PySem.W.Frag} {β : List Addr} {H : Hp} {ys : List (Key × V)} {kvs : List (Key × D)} (m : RPs K β H ys kvs) (k : Key) {v : V} {d : D} (r : RD K β H v d) : RPs K β H (putK ys k v) (putD kvs k d) := by
  have key : ∀ {ys : List (Key × V)} {kvs : List (Key × D)}, RPs K β H ys kvs → (ys.any fun kv => decide (kv.1 = k)) = (kvs.any fun kv => decide (kv.1 = k)) ∧
      RPs K β H (ys.map fun kv => if kv.1 = k then (kv.1, v) else kv) (kvs.map fun kv => if kv.1 = k then (kv.1, d) else kv) ∧ RPs K β H (ys ++ [(k, v)]) (kvs ++ [(k, d)]) := by
    intro ys kvs m
    unfold RPs at m ⊢
    induction m with
    | nil => exact ⟨rfl, .nil, .cons ⟨rfl, r⟩ .nil⟩
    | @cons p q ps qs a b ih =>
      obtain ⟨i1, i2, i3⟩ := ih
      obtain ⟨e1, e2⟩ := a
      refine ⟨by rw [List.any_cons, List.any_cons, i1, e1], ?_, .cons ⟨e1, e2⟩ i3⟩
      rw [List.map_cons, List.map_cons]
      refine .cons ?_ i2
      rw [← e1]
      by_cases hk : p.1 = k
      · rw [if_pos hk, if_pos hk]
        exact ⟨by first | rfl | exact e1, r⟩
      · rw [if_neg hk, if_neg hk]
        exact ⟨e1, e2⟩
  obtain ⟨k1, k2, k3⟩ := key m
  unfold putK putD
  rw [k1]
  split
  · exact k2
  · exact k3
theorem sm_any : SetM G setD (fun o i v H Q => rSetL o i v H Q ∨ rSetD o i v H Q) := by
  intro W β S H o i v d e z Q R ro ri rv h
  unfold setD at h
  split at h
  · cases ro with
    | ref hn =>
      split at h
      · rename_i ds ix hs
        obtain ⟨xs, q1, q2⟩ := R.get hs hn
        cases ri
        unfold setL at h
        split at h
        · rename_i j hj
          refine .inl ⟨_, xs, _, j, rfl, rfl, q1, by rw [q2.length]; exact hj, ?_⟩
          obtain ⟨R', e'⟩ := R.upd (ho := .lst (xs.set j v)) (o' := .lst (ds.set j z)) hn (fun o u z => by rw [q1] at z; cases z) fun e' => ⟨_, upd_same, (RDs.set rv j q2).mono e'⟩
          exact h _ _ e' R'
        · exact h.elim
      · rename_i kvs hs
        obtain ⟨ys, q1, q2⟩ := R.get hs hn
        split at h
        · rename_i k hk
          split at h
          · rename_i hl
            have := ri.key hk
            subst this
            refine .inr ⟨_, _, rfl, DPut.k q1 (by rw [q2.length]; exact Nat.lt_trans hl lim_line), ?_⟩
            obtain ⟨R', e'⟩ := R.upd (ho := .dK (putK ys k v)) (o' := .dct (putD kvs k z)) hn (fun o u z => by rw [q1] at z; cases z) fun e' => ⟨_, upd_same, (put_rel q2 k rv).mono e'⟩
            exact h _ _ e' R'
          · exact h.elim
        · exact h.elim
      · exact h.elim
  · exact h.elim
theorem cs_store {o i : Expr} {mo mi mv : ME} {t : TSet} {f : D → D → D → So → Rs Unit} (hs : PSet X t) (hm : SetM G f t) (hv : PE X a (tM G W mv)) (ho : PE X o (tM G W mo)) (hi : PE X i (tM G W mi))
    (hsw : swapsWithSole [.Subscript o i pos'] a pos.line X.env = pure false := by rfl) (hw : swappedStores [.Subscript o i pos'] a X.env = pure none := by rfl)
    (h1 : (assignEach [.Subscript o i pos'] X.env).map (·.2) = [assign (.Subscript o i pos') X.env] := by rfl)
    (h2 : ∀ v, assign (.Subscript o i pos') X.env v = (do
      let ov ← holding [v] (eval o X.env)
      let iv ← holding [v, ov] (eval i X.env)
      standAt pos'
      holding [v, ov, iv] (setItem ov iv v)
      release [v, ov, iv] []) := by intro _; rfl) : PS X (.Assign [.Subscript o i pos'] a pos) (sM G W (mStore f mo mi mv)) := ps_imp (ps_asg hv (pg_sub ho hi hs h2) hsw hw h1) fun D σ H h => by
  obtain ⟨β, ρ, S, R, V, h⟩ := h
  refine ⟨β, ρ, S, R, V, h.bind.imp fun z S1 β1 H1 e1 R1 h1 v rv => ?_⟩
  refine ⟨β1, ρ, S1, R1, V.mono e1, h1.bind.imp fun d S2 β2 H2 e2 R2 h2 ov ro => ?_⟩
  refine ⟨β2, ρ, S2, R2, V.mono (e1.trans e2), h2.bind.imp fun e S3 β3 H3 e3 R3 h3 iv ri => ?_⟩
  refine hm W β3 S3 H3 ov iv v d e z _ R3 (ro.mono e3) ri (rv.mono (e2.trans e3)) (h3.bind.imp fun _ S4 β4 H4 e4 R4 h4 => ?_)
  exact h4.ok_at R4 σ (V.mono (e1.trans (e2.trans (e3.trans e4))))

/-! ### while -/
def whGo (mt : MT) (s : MS) : Nat → MS
  | 0 => fun _ _ => .stuck
  | n + 1 => fun ρ S => (mt ρ S).bind fun c S1 => if c then (s ρ S1).bind fun p S2 => (match p.1 with
      | .nx => whGo mt s n p.2 S2
      | .ct => whGo mt s n p.2 S2
      | .bk => .ok (.nx, p.2) S2
      | .rt d => .ok (.rt d, p.2) S2) else .ok (.nx, ρ) S1
def mWhile (n : Nat) (mt : MT) (s : MS) : MS := whGo mt s n
theorem cs_while (n : Nat) {c : Expr} {body : List Stmt} (hp : PassesOwn (model X.prog X.w) X.A X.env X.xe) (hc : PT X c (tT G W mt)) (hb : PSs X body (sM G W s1)) : PS X (.While c body [] pos) (sM G W (mWhile n mt s1)) := by
  refine ps_imp (ps_while hp hc hb) fun D σ H h => ?_
  refine ⟨fun k σ H => sM G W (whGo mt s1 k) D σ H, ⟨n, h⟩, fun k σ H hk => ?_⟩
  obtain ⟨β, ρ, S, R, V, h⟩ := hk
  cases k with
  | zero => exact h.elim
  | succ k =>
    refine ⟨β, ρ, S, R, V, h.bind.imp fun c S1 β1 H1 e1 R1 h1 => ?_⟩
    cases c with
    | false => exact h1.ok_at R1 σ (V.mono e1)
    | true =>
      refine ⟨fun σ H => sM G W (whGo mt s1 k) D σ H, fun σ' H' q => ⟨k, Nat.lt_succ_self k, q⟩, ?_⟩
      refine ⟨β1, ρ, S1, R1, V.mono e1, h1.bind.imp fun p S2 β2 H2 e2 R2 h2 => ?_⟩
      obtain ⟨f, ρ2⟩ := p
      cases f with
      | nx => exact fun σ' V' => ⟨β2, ρ2, S2, R2, V', h2⟩
      | ct => exact fun σ' V' => ⟨β2, ρ2, S2, R2, V', h2⟩
      | bk => exact h2.ok_at R2
      | rt d => exact h2.ok_at R2

/-! ### what is walked -/
inductive IT where
  | vals (ds : List D)
  | lst (m : Nat)
  | items (m : Nat)
  | keys (m : Nat)
  | valu (m : Nat)
  | enumL (m : Nat)
  | rev (m n : Nat)
  | zipL (m k : Nat)
def itemO (l : Option D) : Option (Option D) := some l
def IT.at (it : IT) (S : So) (i : Nat) : Option (Option D) := match it with
  | .vals ds => some ds[i]?
  | .lst m => match S[m]? with
    | some (.lst ds) => some ds[i]?
    | _ => none
  | .items m => match S[m]? with
    | some (.lck kvs) => some (kvs[i]?.map fun p => .tup [kD p.1, p.2])
    | _ => none
  | .keys m => match S[m]? with
    | some (.lck kvs) => some (kvs[i]?.map fun p => kD p.1)
    | _ => none
  | .valu m => match S[m]? with
    | some (.lck kvs) => some (kvs[i]?.map fun p => p.2)
    | _ => none
  | .enumL m => match S[m]? with
    | some (.lst ds) => some (ds[i]?.map fun d => .tup [.int (i : Nat), d])
    | _ => none
  | .rev m n => match S[m]? with
    | some (.lst ds) => if ds.length = n then (if i < n then some ds[n - 1 - i]? else some none) else none
    | _ => none
  | .zipL m k => match S[m]?, S[k]? with
    | some (.lst ds), some (.lst es) => some (match ds[i]?, es[i]? with
      | some d, some e => some (.tup [d, e])
      | _, _ => none)
    | _, _ => none
/-- how many turns at most -/
def IT.len (it : IT) (S : So) : Nat := match it with
  | .vals ds => ds.length
  | .lst m => match S[m]? with
    | some (.lst ds) => ds.length
    | _ => 0
  | .items m => match S[m]? with
    | some (.lck kvs) => kvs.length
    | _ => 0
  | .keys m => match S[m]? with
    | some (.lck kvs) => kvs.length
    | _ => 0
  | .valu m => match S[m]? with
    | some (.lck kvs) => kvs.length
    | _ => 0
  | .enumL m => match S[m]? with
    | some (.lst ds) => ds.length
    | _ => 0
  | .rev _ n => n
  | .zipL m k => match S[m]? with
    | some (.lst ds) => ds.length
    | _ => 0
abbrev MI := Ro → So → Rs IT
/-- an iterator as it is against what is told of it -/
def JOk (G : Gs) (it : IT) (J : It) (β₀ : List Addr) (H₀ : Hp) : Prop := ∀ (β : List Addr) (S : So) (H : Hp) (i : Nat), Ex β₀ H₀ β H → Rl G.K G.cl β S H →
  (it.at S i = some none → J.stop i H) ∧ ∀ d, it.at S i = some (some d) → J.go i H ∧ ∀ x H', J.yld i H x H' → Ex β H β H' ∧ Rl G.K G.cl β S H' ∧ RD G.K β H' x d
def iM (G : Gs) (W : WX) (mi : MI) : TI := fun σ H R => ∃ β ρ S, Rl G.K G.cl β S H ∧ RVs G β H σ ρ ∧ Gd G W β H (mi ρ S) fun it _ β' H' => ∀ J, JOk G it J β' H' → R J H'
theorem pi_imp {tg e : Expr} {t t' : TI} (h : PI X tg e t) (hi : ∀ σ H R, t' σ H R → t σ H R) : PI X tg e t' := ⟨fun pins s σ H R I q => h.run pins s σ H R I (hi σ H R q)⟩

def forGo (it : IT) (bn : Bnd) (s : MS) : Nat → Nat → MS
  | 0, i => fun ρ S => match it.at S i with
    | some none => .ok (.nx, ρ) S
    | _ => .stuck
  | n + 1, i => fun ρ S => match it.at S i with
    | some none => .ok (.nx, ρ) S
    | some (some d) => match bn d ρ with
      | none => .stuck
      | some ρ1 => (s ρ1 S).bind fun p S2 => match p.1 with
        | .nx => forGo it bn s n (i + 1) p.2 S2
        | .ct => forGo it bn s n (i + 1) p.2 S2
        | .bk => .ok (.nx, p.2) S2
        | .rt d => .ok (.rt d, p.2) S2
    | none => .stuck
def mFor (mi : MI) (bn : Bnd) (s : MS) : MS := fun ρ S => (mi ρ S).bind fun it S1 => forGo it bn s (it.len S1) 0 ρ S1
theorem cs_for {tg iter : Expr} {body : List Stmt} {mi : MI} {bn : Bnd} {g : TG} (hp : PassesOwn (model X.prog X.w) X.A X.env X.xe) (hc : X.calm = true) (hm : BindM G bn g) (hi : PI X tg iter (iM G W mi)) (hg : PG X tg g) (hb : PSs X body (sM G W s1))
    (hs : ∀ x, foldedSetIterable iter X.env x = pure x := by intro _; rfl) : PS X (.For tg iter body [] pos) (sM G W (mFor mi bn s1)) := by
  refine ps_imp (ps_for hp hc hi hg hb hs) fun D σ H h => ?_
  obtain ⟨β, ρ, S, R, V, h⟩ := h
  refine ⟨β, ρ, S, R, V, h.bind.imp fun it S1 β1 H1 e1 R1 h1 J hJ => ?_⟩
  refine ⟨fun i m σ H => ∃ β ρ S, Ex β1 H1 β H ∧ Rl G.K G.cl β S H ∧ RVs G β H σ ρ ∧ Gd G W β H (forGo it bn s1 m i ρ S) (kS G D), ⟨it.len S1, β1, ρ, S1, Ex.refl, R1, V.mono e1, h1⟩, ?_⟩
  rintro i m σ' H' ⟨β2, ρ2, S2, e2, R2, V2, h2⟩
  obtain ⟨j1, j2⟩ := hJ β2 S2 H' i e2 R2
  cases m with
  | zero =>
    unfold forGo at h2
    split at h2
    · rename_i hz
      exact .inl ⟨j1 hz, h2.ok_at R2 _ V2⟩
    · exact h2.elim
  | succ m =>
    unfold forGo at h2
    split at h2
    · rename_i hz
      exact .inl ⟨j1 hz, h2.ok_at R2 _ V2⟩
    · rename_i d hd
      obtain ⟨go, yl⟩ := j2 d hd
      split at h2
      · exact h2.elim
      · rename_i ρ3 hb3
        refine .inr ⟨go, fun σ H => ∃ β ρ S, Ex β1 H1 β H ∧ Rl G.K G.cl β S H ∧ RVs G β H σ ρ ∧ Gd G W β H (forGo it bn s1 m (i + 1) ρ S) (kS G D), fun σ' H' q => ⟨m, Nat.lt_succ_self m, q⟩, fun x H3 y => ?_⟩
        obtain ⟨e3, R3, rd⟩ := yl x H3 y
        refine hm β2 S2 H3 σ' ρ2 ρ3 x d _ R3 (V2.mono e3) rd hb3 fun σ4 V4 => ?_
        refine ⟨β2, ρ3, S2, R3, V4, (h2.mono e3).bind.imp fun p S5 β5 H5 e5 R5 h5 => ?_⟩
        obtain ⟨f, ρ5⟩ := p
        cases f with
        | nx => exact fun σ6 V6 => ⟨β5, ρ5, S5, e2.trans (e3.trans e5), R5, V6, h5⟩
        | ct => exact fun σ6 V6 => ⟨β5, ρ5, S5, e2.trans (e3.trans e5), R5, V6, h5⟩
        | bk => exact h5.ok_at R5
        | rt d => exact h5.ok_at R5
    · exact h2.elim
end
end Mi
namespace Mi
open PySem PySem.Spec PyProof.Rows L2
section
variable {X : Cx} {G : Gs} {W : WX} {a b e : Expr} {es : List Expr} {m ma mb : ME} {mr : MA} {pos p2 : Pos} {tg : Expr}
/-! ### walks -/
def chD (x : Str) : List D := x.cps.toList.map fun c => .str ⟨#[c]⟩
def mIt (m : ME) : MI := fun ρ S => (m ρ S).bind fun d S1 => match d with
  | .tup ds => .ok (.vals ds) S1
  | .frl ds => .ok (.vals ds) S1
  | .str x => .ok (.vals (chD x)) S1
  | .ref n => match S1[n]? with
    | some (.lst _) => .ok (.lst n) S1
    | _ => .stuck
  | _ => .stuck
theorem jok_tup {a : Addr} {ds : List D} {xs : List V} {β₀ : List Addr} {H₀ : Hp} (q : SqT G.K H₀ a xs) (m : RDs G.K β₀ H₀ xs ds) : JOk G (.vals ds) (Itt G.K a) β₀ H₀ := by
  intro β S H i e R
  have q' := sqT_ex e.toEw q
  have m' := m.mono e.toEw
  refine ⟨fun h => ⟨xs, q', ?_⟩, fun d h => ?_⟩
  · have h : ds[i]? = none := by simpa [IT.at] using h
    rw [m.length]
    exact List.getElem?_eq_none_iff.mp h
  · have h : ds[i]? = some d := by simpa [IT.at] using h
    obtain ⟨v, h1, h2⟩ := m'.get h
    refine ⟨⟨xs, v, q', h1⟩, fun x H' y => ?_⟩
    obtain ⟨rfl, y⟩ := y
    have := y xs q'
    rw [h1] at this
    cases this
    exact ⟨Ex.refl, R, h2⟩
theorem jok_frl {a : Addr} {ds : List D} {xs : List V} {β₀ : List Addr} {H₀ : Hp} (q : FzL G.K H₀ a xs) (m : RDs G.K β₀ H₀ xs ds) : JOk G (.vals ds) (Itl G.K a) β₀ H₀ := by
  intro β S H i e R
  have q' := (fzL_ex e.toEw q).sq
  have m' := m.mono e.toEw
  refine ⟨fun h => ⟨xs, q', ?_⟩, fun d h => ?_⟩
  · have h : ds[i]? = none := by simpa [IT.at] using h
    rw [m.length]
    exact List.getElem?_eq_none_iff.mp h
  · have h : ds[i]? = some d := by simpa [IT.at] using h
    obtain ⟨v, h1, h2⟩ := m'.get h
    refine ⟨⟨xs, v, q', h1⟩, fun x H' y => ?_⟩
    obtain ⟨rfl, y⟩ := y
    have := y xs q'
    rw [h1] at this
    cases this
    exact ⟨Ex.refl, R, h2⟩
theorem jok_lst {a : Addr} {n : Nat} {β₀ : List Addr} {H₀ : Hp} (ha : β₀[n]? = some a) : JOk G (.lst n) (Itl G.K a) β₀ H₀ := by
  intro β S H i e R
  have ha' := e.pre _ _ ha
  refine ⟨fun h => ?_, fun d h => ?_⟩
  · unfold IT.at at h
    simp only at h
    split at h
    · rename_i ds hs
      obtain ⟨xs, q1, q2⟩ := R.get hs ha'
      refine ⟨xs, SqL.of q1, ?_⟩
      rw [q2.length]
      exact List.getElem?_eq_none_iff.mp (Option.some.inj h)
    · cases h
  · unfold IT.at at h
    simp only at h
    split at h
    · rename_i ds hs
      obtain ⟨xs, q1, q2⟩ := R.get hs ha'
      obtain ⟨v, h1, h2⟩ := q2.get (Option.some.inj h)
      refine ⟨⟨xs, v, SqL.of q1, h1⟩, fun x H' y => ?_⟩
      obtain ⟨rfl, y⟩ := y
      have := y xs (SqL.of q1)
      rw [h1] at this
      cases this
      exact ⟨Ex.refl, R, h2⟩
    · cases h
theorem jok_str {x : Str} {β₀ : List Addr} {H₀ : Hp} : JOk G (.vals (chD x)) (Its x) β₀ H₀ := by
  intro β S H i e R
  have key : (chD x)[i]? = (x.cps[i]?).map fun c => D.str ⟨#[c]⟩ := by
    unfold chD
    rw [List.getElem?_map, Array.getElem?_toList]
  refine ⟨fun h => ?_, fun d h => ?_⟩
  · have h : (chD x)[i]? = none := by simpa [IT.at] using h
    rw [key] at h
    have : x.cps[i]? = none := by simpa using h
    exact Array.getElem?_eq_none_iff.mp this
  · have h : (chD x)[i]? = some d := by simpa [IT.at] using h
    rw [key] at h
    cases hc : x.cps[i]? with
    | none => rw [hc] at h; cases h
    | some c =>
      rw [hc] at h
      cases h
      refine ⟨(Array.getElem?_eq_some_iff.mp hc).1, fun v H' y => ?_⟩
      obtain ⟨rfl, c', h1, rfl⟩ := y
      rw [hc] at h1
      cases h1
      exact ⟨Ex.refl, R, .str _⟩
theorem jok_rng {lo : Int} {n : Nat} {β₀ : List Addr} {H₀ : Hp} : JOk G (.vals ((List.range n).map fun (k : Nat) => D.int (lo + (k : Int)))) (Itr lo n) β₀ H₀ := by
  intro β S H i e R
  refine ⟨fun h => ?_, fun d h => ?_⟩
  · have h : ((List.range n).map fun (k : Nat) => D.int (lo + (k : Int)))[i]? = none := by simpa only [IT.at, Option.some.injEq] using h
    have := List.getElem?_eq_none_iff.mp h
    show n ≤ i
    simpa using this
  · have h : ((List.range n).map fun (k : Nat) => D.int (lo + (k : Int)))[i]? = some d := by simpa only [IT.at, Option.some.injEq] using h
    obtain ⟨h1, h2⟩ := List.getElem?_eq_some_iff.mp h
    have h1' : i < n := by simpa using h1
    refine ⟨h1', fun x H' y => ?_⟩
    obtain ⟨rfl, rfl⟩ := y
    have : d = .int (lo + (i : Nat)) := by rw [← h2]; simp
    subst this
    exact ⟨Ex.refl, R, .int _⟩
theorem PIor {t t' : TI} (h : PI X tg e t) (h' : PI X tg e t') : PI X tg e (fun σ H R => t σ H R ∨ t' σ H R) := ⟨fun pins s σ H R I q => q.elim (h.run pins s σ H R I) (h'.run pins s σ H R I)⟩
/-- a walk over the value of e: what is walked is known when it is there -/
theorem ci_any (hK : X.K = G.K) (ha : PE X e (tM G W m)) : PI X tg e (iM G W (mIt m)) := by
  refine ⟨fun pins s σ H R I h => ?_⟩
  obtain ⟨β, ρ, S, RR, V, h⟩ := h
  -- the three rules at one run
  have pe : PE X e (fun σ' H' Q => ∃ Q', tM G W m σ' H' Q' ∧ ∀ x H1, Q' x H1 → Q x H1) := pe_imp ha fun σ' H' Q ⟨Q', q, hq⟩ => by
    obtain ⟨β, ρ, S, RR, V, h⟩ := q
    exact ⟨β, ρ, S, RR, V, h.imp fun d S1 β1 H1 e1 R1 h1 x rx => hq x H1 (h1 x rx)⟩
  have hp := h.bind
  generalize hr : m ρ S = r at hp
  cases r with
  | stuck => exact hp.elim
  | ex c ρ' S' =>
    refine (pi_list ha).run pins s σ H R I ⟨β, ρ, S, RR, V, ?_⟩
    rw [hr]
    exact hp
  | ok d S1 =>
    cases d with
    | tup ds =>
      refine (pi_tup ha).run pins s σ H R I ⟨β, ρ, S, RR, V, ?_⟩
      rw [hr]
      intro β1 H1 e1 R1 x rx
      cases rx with
      | tup q q2 =>
        have h1 := hp β1 H1 e1 R1
        refine ⟨_, rfl, ⟨_, by rw [hK]; exact q⟩, ?_⟩
        rw [hK]
        exact h1 β1 H1 Ex.refl R1 _ (jok_tup q q2)
    | frl ds =>
      refine (pi_list ha).run pins s σ H R I ⟨β, ρ, S, RR, V, ?_⟩
      rw [hr]
      intro β1 H1 e1 R1 x rx
      cases rx with
      | frl q q2 =>
        have h1 := hp β1 H1 e1 R1
        refine ⟨_, rfl, ⟨_, by rw [hK]; exact q.sq⟩, ?_⟩
        rw [hK]
        exact h1 β1 H1 Ex.refl R1 _ (jok_frl q q2)
    | str y =>
      refine (pi_str ha).run pins s σ H R I ⟨β, ρ, S, RR, V, ?_⟩
      rw [hr]
      intro β1 H1 e1 R1 x rx
      cases rx
      exact ⟨_, rfl, hp β1 H1 e1 R1 β1 H1 Ex.refl R1 _ jok_str⟩
    | ref n =>
      refine (pi_list ha).run pins s σ H R I ⟨β, ρ, S, RR, V, ?_⟩
      rw [hr]
      intro β1 H1 e1 R1 x rx
      cases rx with
      | ref hn =>
        have h1 := hp β1 H1 e1 R1
        simp only at h1
        split at h1
        · rename_i ds hs
          obtain ⟨xs, q1, q2⟩ := R1.get hs hn
          refine ⟨_, rfl, ⟨_, SqL.of q1⟩, ?_⟩
          rw [hK]
          exact h1 β1 H1 Ex.refl R1 _ (jok_lst hn)
        · exact h1.elim
    | non =>
      refine (pi_list ha).run pins s σ H R I ⟨β, ρ, S, RR, V, ?_⟩
      rw [hr]
      exact fun β1 H1 e1 R1 x rx => (hp β1 H1 e1 R1).elim
    | bl _ =>
      refine (pi_list ha).run pins s σ H R I ⟨β, ρ, S, RR, V, ?_⟩
      rw [hr]
      exact fun β1 H1 e1 R1 x rx => (hp β1 H1 e1 R1).elim
    | int _ =>
      refine (pi_list ha).run pins s σ H R I ⟨β, ρ, S, RR, V, ?_⟩
      rw [hr]
      exact fun β1 H1 e1 R1 x rx => (hp β1 H1 e1 R1).elim
/-- range(n), range(i, n) -/
def mRng1 (ma : MA) : MI := fun ρ S => (ma ρ S).bind fun ds S1 => match ds with
  | [.int j] => if j ≤ (lim : Int) ∧ -(2 ^ 62) ≤ j then .ok (.vals ((List.range j.toNat).map fun (k : Nat) => D.int (0 + (k : Int)))) S1 else .stuck
  | _ => .stuck
def mRng2 (ma : MA) : MI := fun ρ S => (ma ρ S).bind fun ds S1 => match ds with
  | [.int i, .int j] => if j ≤ (lim : Int) ∧ -(lim : Int) ≤ i ∧ i ≤ lim ∧ -(lim : Int) ≤ j then .ok (.vals ((List.range (j - i).toNat).map fun (k : Nat) => D.int (i + (k : Int)))) S1 else .stuck
  | _ => .stuck
theorem lim62 : (lim : Int) < 2 ^ 62 := by decide
theorem ci_rng1 (hg : Gl X "range") (hm : X.mg "range" = none) (ha : PA X [a] (tA G W mr)) (hs : starEach [a] X.env = [(false, eval a X.env)] := by rfl) : PI X tg (.Call (.Name "range" p2) [a] [] pos) (iM G W (mRng1 mr)) := by
  refine pi_imp (pi_range1 hg hm ha hs) fun σ H R h => ?_
  obtain ⟨β, ρ, S, RR, V, h⟩ := h
  refine ⟨β, ρ, S, RR, V, h.bind.imp fun ds S1 β1 H1 e1 R1 h1 vs rs => ?_⟩
  split at h1
  · obtain ⟨v, rfl, r⟩ := rs.one
    cases r
    split at h1
    · rename_i hc
      have := lim62
      exact ⟨_, rfl, hc.2, by omega, h1 β1 H1 Ex.refl R1 _ jok_rng⟩
    · exact h1.elim
  · exact h1.elim
theorem ci_rng2 (hg : Gl X "range") (hm : X.mg "range" = none) (ha : PA X [a, b] (tA G W mr)) (hs : starEach [a, b] X.env = [(false, eval a X.env), (false, eval b X.env)] := by rfl) (hs2 : starEach [b] X.env = [(false, eval b X.env)] := by rfl) : PI X tg (.Call (.Name "range" p2) [a, b] [] pos) (iM G W (mRng2 mr)) := by
  refine pi_imp (pi_range2 hg hm ha hs hs2) fun σ H R h => ?_
  obtain ⟨β, ρ, S, RR, V, h⟩ := h
  refine ⟨β, ρ, S, RR, V, h.bind.imp fun ds S1 β1 H1 e1 R1 h1 vs rs => ?_⟩
  split at h1
  · obtain ⟨v, w, rfl, r, r'⟩ := rs.two
    cases r
    cases r'
    split at h1
    · rename_i hc
      have := lim62
      exact ⟨_, _, rfl, ⟨by omega, by omega, by omega, by omega⟩, h1 β1 H1 Ex.refl R1 _ jok_rng⟩
    · exact h1.elim
  · exact h1.elim

/-! ### calls of builtins by values -/
def CallM (G : Gs) (f : List D → So → Rs D) (r : List V → Hp → VK → Prop) : Prop := ∀ (W : WX) (β : List Addr) (S : So) (H : Hp) (xs : List V) (ds : List D) (Q : VK), Rl G.K G.cl β S H → RDs G.K β H xs ds →
  Gd G W β H (f ds S) (kV G Q) → r xs H Q
def mCallB (f : List D → So → Rs D) (ma : MA) : ME := fun ρ S => (ma ρ S).bind f
theorem tM_callB {f : List D → So → Rs D} {r : List V → Hp → VK → Prop} (hm : CallM G f r) {σ : Sl} {H : Hp} {Q : VK} (h : tM G W (mCallB f mr) σ H Q) : tCB r (tA G W mr) σ H Q := by
  obtain ⟨β, ρ, S, R, V, h⟩ := h
  exact ⟨β, ρ, S, R, V, h.bind.imp fun ds S1 β1 H1 e1 R1 h1 xs rs => hm W β1 S1 H1 xs ds Q R1 rs h1⟩
theorem ce_callB {id : String} {x : Str} {f : List D → So → Rs D} {r : List V → Hp → VK → Prop} (hc : CallR X (.builtin id) r) (hf : CallM G f r) (hg : Gl X x) (hm : X.mg x = none) (hv : bootBuiltins x = some (.builtin id)) (ha : PA X (e :: es) (tA G W mr)) (hn : x ≠ "__name__" := by decide) (hdb : (x == ("__debug__" : Str)) = false := by decide)
    (he : starEach (e :: es) X.env = (false, eval e X.env) :: starEach es X.env := by rfl) (hpl : (backTo pos (starEach es X.env)).any (·.1) = false := by rfl) : PE X (.Call (.Name x p2) (e :: es) [] pos) (tM G W (mCallB f mr)) :=
  pe_imp (pe_callB hc hg hm hv ha hn hdb he hpl) fun _ _ _ h => tM_callB hf h
theorem ce_callTy {T : String} {x : Str} {f : List D → So → Rs D} {r : List V → Hp → VK → Prop} (hc : CallR X (.type T) r) (hf : CallM G f r) (hg : Gl X x) (hm : X.mg x = none) (hv : bootBuiltins x = some (.type T)) (ha : PA X (e :: es) (tA G W mr)) (hn : x ≠ "__name__" := by decide) (hdb : (x == ("__debug__" : Str)) = false := by decide)
    (he : starEach (e :: es) X.env = (false, eval e X.env) :: starEach es X.env := by rfl) (hpl : (backTo pos (starEach es X.env)).any (·.1) = false := by rfl) : PE X (.Call (.Name x p2) (e :: es) [] pos) (tM G W (mCallB f mr)) :=
  pe_imp (pe_callTy hc hg hm hv ha hn hdb he hpl) fun _ _ _ h => tM_callB hf h
/-- len -/
def lenO (S : So) (d : D) : Option Nat := match vw S d with
  | .str x => if x.length ≤ lim then some x.length else none
  | .tup ds => some ds.length
  | .lst ds => some ds.length
  | .dct kvs => some kvs.length
  | _ => none
def lenD : List D → So → Rs D
  | [d], S => match lenO S d with
    | some n => .ok (.int n) S
    | none => .stuck
  | _, _ => .stuck
def rLenM (K : PySem.W.Frag) : List V → Hp → VK → Prop := fun xs H Q => (∃ x n, xs = [x] ∧ LenV K x H n ∧ Q (.int n) H) ∨ ∃ d kvs, xs = [.ref d] ∧ H d = some (.dK kvs) ∧ Q (.int kvs.length) H
theorem oc_len : CallR X (.builtin "len") (rLenM X.K) := by
  refine call_len.or ?_
  intro pins s σ H xs us Q I r h
  obtain ⟨d, kvs, rfl, hd, q⟩ := h
  exact call_lenD pins s σ H _ us Q I r ⟨d, kvs, rfl, hd, q⟩
theorem cm_len : CallM G lenD (rLenM G.K) := by
  intro W β S H xs ds Q R rs h
  unfold lenD at h
  split at h
  · obtain ⟨v, rfl, r⟩ := rs.one
    split at h
    · rename_i n hn
      have q := h β H Ex.refl R _ (.int _)
      unfold lenO at hn
      have wp := r.vw R
      split at hn
      · rename_i x hp
        rw [hp] at wp
        obtain rfl : v = .str x := wp
        split at hn
        · rename_i hc
          cases hn
          exact .inl ⟨_, _, rfl, ⟨lim_le hc, rfl⟩, q⟩
        · cases hn
      · rename_i ds hp
        rw [hp] at wp
        cases hn
        obtain ⟨l, xs, rfl, k, m⟩ := wp
        exact .inl ⟨_, _, rfl, .inr ⟨xs, k, m.length.symm⟩, q⟩
      · rename_i ds hp
        rw [hp] at wp
        cases hn
        obtain ⟨l, xs, rfl, k, m⟩ := wp
        exact .inl ⟨_, _, rfl, .inl ⟨xs, k, m.length.symm⟩, q⟩
      · rename_i ds hp
        rw [hp] at wp
        cases hn
        obtain ⟨l, xs, rfl, k, m⟩ := wp
        refine .inr ⟨_, _, rfl, k, ?_⟩
        rw [m.length]
        exact q
      · cases hn
    · exact h.elim
  · exact h.elim
/-- int(i) -/
def intD : List D → So → Rs D
  | [.int i], S => .ok (.int i) S
  | [.bl b], S => .ok (.int (if b then 1 else 0)) S
  | _, _ => .stuck
theorem cm_int : CallM G intD (fun xs H Q => (∃ i, xs = [.int i] ∧ Q (.int i) H) ∨ ∃ k, xs = [.bl k] ∧ Q (.int (if k then 1 else 0)) H) := by
  intro W β S H xs ds Q R rs h
  unfold intD at h
  split at h
  · obtain ⟨v, rfl, r⟩ := rs.one
    cases r
    exact .inl ⟨_, rfl, h β H Ex.refl R _ (.int _)⟩
  · obtain ⟨v, rfl, r⟩ := rs.one
    cases r
    exact .inr ⟨_, rfl, h β H Ex.refl R _ (.int _)⟩
  · exact h.elim
/-- str(i), str(x) -/
def strD : List D → So → Rs D
  | [.int i], S => if i.natAbs.log2 < 1920 then .ok (.str (toString i)) S else .stuck
  | [.str x], S => .ok (.str x) S
  | _, _ => .stuck
theorem oc_str : CallR X (.type "str") (fun xs H Q => (∃ i, xs = [.int i] ∧ i.natAbs.log2 < 1920 ∧ Q (.str (toString i)) H) ∨ ∃ a, xs = [.str a] ∧ Q (.str a) H) := call_str_int.or SkE.call_str_str
theorem cm_str : CallM G strD (fun xs H Q => (∃ i, xs = [.int i] ∧ i.natAbs.log2 < 1920 ∧ Q (.str (toString i)) H) ∨ ∃ a, xs = [.str a] ∧ Q (.str a) H) := by
  intro W β S H xs ds Q R rs h
  unfold strD at h
  split at h
  · obtain ⟨v, rfl, r⟩ := rs.one
    cases r
    split at h
    · rename_i hc
      exact .inl ⟨_, rfl, hc, h β H Ex.refl R _ (.str _)⟩
    · exact h.elim
  · obtain ⟨v, rfl, r⟩ := rs.one
    cases r
    exact .inr ⟨_, rfl, h β H Ex.refl R _ (.str _)⟩
  · exact h.elim
/-- list(x), tuple(x) of a list or a tuple -/
def seqO (S : So) (d : D) : Option (List D) := match vw S d with
  | .tup ds => some ds
  | .lst ds => some ds
  | _ => none
def listD : List D → So → Rs D
  | [d], S => match seqO S d with
    | some ds => .ok (.ref S.length) (S ++ [.lst ds])
    | none => .stuck
  | _, _ => .stuck
def tupleD : List D → So → Rs D
  | [d], S => match seqO S d with
    | some ds => .ok (.tup ds) S
    | none => .stuck
  | _, _ => .stuck
theorem seq_rel {K : PySem.W.Frag} {cl : Str → Option Addr} {β : List Addr} {S : So} {H : Hp} (R : Rl K cl β S H) {v : V} {d : D} {ds : List D} (r : RD K β H v d) (h : seqO S d = some ds) : ∃ p xs, v = .ref p ∧ (SqL K H p xs ∨ SqT K H p xs) ∧ RDs K β H xs ds := by
  unfold seqO at h
  have wp := r.vw R
  generalize hp : vw S d = p at *
  cases p with
  | tup ds =>
    cases h
    obtain ⟨l, xs, rfl, k, m⟩ := wp
    exact ⟨l, xs, rfl, .inr k, m⟩
  | lst ds =>
    cases h
    obtain ⟨l, xs, rfl, k, m⟩ := wp
    exact ⟨l, xs, rfl, .inl k, m⟩
  | _ => cases h
theorem cm_list : CallM G listD (fun xs H Q => ∃ p ys, xs = [.ref p] ∧ (SqL G.K H p ys ∨ SqT G.K H p ys) ∧ ∀ l, H l = none → Q (.ref l) (upd H l (.lst ys))) := by
  intro W β S H xs ds Q R rs h
  unfold listD at h
  split at h
  · obtain ⟨v, rfl, r⟩ := rs.one
    split at h
    · rename_i ds hs
      obtain ⟨p, xs, rfl, q, m⟩ := seq_rel R r hs
      refine ⟨p, xs, rfl, q, fun l hl => ?_⟩
      exact h (β ++ [l]) _ (Ex.new hl) (R.new hl ⟨_, upd_same, m.mono (Ex.new hl).toEw⟩) _ (.ref (last_of R.len))
    · exact h.elim
  · exact h.elim
theorem cm_tuple : CallM G tupleD (fun xs H Q => ∃ p ys, xs = [.ref p] ∧ ((SqL G.K H p ys ∧ ∀ l, H l = none → Q (.ref l) (upd H l (.tup ys))) ∨ (SqT G.K H p ys ∧ Q (.ref p) H))) := by
  intro W β S H xs ds Q R rs h
  unfold tupleD at h
  split at h
  · obtain ⟨v, rfl, r⟩ := rs.one
    split at h
    · rename_i ds hs
      obtain ⟨p, xs, rfl, q, m⟩ := seq_rel R r hs
      rcases q with q | q
      · refine ⟨p, xs, rfl, .inl ⟨q, fun l hl => ?_⟩⟩
        exact h _ _ (Ex.fresh hl) (R.fresh hl) _ (.tup (.inl (.inl upd_same)) (m.mono (Ex.fresh hl).toEw))
      · exact ⟨p, xs, rfl, .inr ⟨q, h β H Ex.refl R _ (.tup q m)⟩⟩
    · exact h.elim
  · exact h.elim
/-- min, max of two -/
def minD : List D → So → Rs D
  | [.int i, .int j], S => .ok (.int (if j < i then j else i)) S
  | _, _ => .stuck
def maxD : List D → So → Rs D
  | [.int i, .int j], S => .ok (.int (if j > i then j else i)) S
  | _, _ => .stuck
theorem cm_min : CallM G minD (fun xs H Q => ∃ i j, xs = [.int i, .int j] ∧ Q (.int (if j < i then j else i)) H) := by
  intro W β S H xs ds Q R rs h
  unfold minD at h
  split at h
  · obtain ⟨v, w, rfl, r, r'⟩ := rs.two
    cases r
    cases r'
    exact ⟨_, _, rfl, h β H Ex.refl R _ (.int _)⟩
  · exact h.elim
theorem cm_max : CallM G maxD (fun xs H Q => ∃ i j, xs = [.int i, .int j] ∧ Q (.int (if j > i then j else i)) H) := by
  intro W β S H xs ds Q R rs h
  unfold maxD at h
  split at h
  · obtain ⟨v, w, rfl, r, r'⟩ := rs.two
    cases r
    cases r'
    exact ⟨_, _, rfl, h β H Ex.refl R _ (.int _)⟩
  · exact h.elim

/-! ### isinstance of builtin types -/
inductive Ty where
  | non | bool | int | str | tup | lst | dct
  deriving DecidableEq
def tyS : Ty → String
  | .non => "NoneType"
  | .bool => "bool"
  | .int => "int"
  | .str => "str"
  | .tup => "tuple"
  | .lst => "list"
  | .dct => "dict"
def tyO (S : So) : D → Option Ty
  | .non => some .non
  | .bl _ => some .bool
  | .int _ => some .int
  | .str _ => some .str
  | .tup _ => some .tup
  | .frl _ => some .lst
  | .ref n => match S[n]? with
    | some (.lst _) => some .lst
    | some (.dct _) => some .dct
    | some (.lck _) => some .dct
    | _ => none
def isTy : Ty → Ty → Bool
  | .non, .non => true
  | .bool, .bool => true
  | .bool, .int => true
  | .int, .int => true
  | .str, .str => true
  | .tup, .tup => true
  | .lst, .lst => true
  | .dct, .dct => true
  | _, _ => false
theorem kit_tys {K : PySem.W.Frag} (a b : Ty) (hb : b ≠ .non) : PySem.W.kitOne K (.type (tyS a)) (.type (tyS b)) = some (isTy a b) := by
  refine kit_ty ?_
  cases a <;> cases b <;> first | exact absurd rfl hb | (decide +kernel)
theorem sqT_ty {K : PySem.W.Frag} {H : Hp} {a : Addr} {xs : List V} (h : SqT K H a xs) : TyX K H (.ref a) (.type "tuple") := by
  rcases h with (h | ⟨o, h⟩) | ⟨o, _, _, h, c, _⟩
  · exact .base (.tup h)
  · exact .fTuple h
  · exact .kTuple h c
theorem sqL_ty {K : PySem.W.Frag} {H : Hp} {a : Addr} {xs : List V} (h : SqL K H a xs) : TyX K H (.ref a) (.type "list") := by
  rcases h with (h | ⟨o, h⟩) | ⟨o, _, _, h, c, _⟩
  · exact .base (.lst h)
  · exact .base (.frz h)
  · exact .kList h c
theorem RD.ty {K : PySem.W.Frag} {cl : Str → Option Addr} {β : List Addr} {S : So} {H : Hp} (R : Rl K cl β S H) {v : V} {d : D} {t : Ty} (r : RD K β H v d) (h : tyO S d = some t) : TyX K H v (.type (tyS t)) := by
  cases r with
  | non => cases h; exact .base .non
  | bl b => cases h; exact .base (.bl b)
  | int i => cases h; exact .base (.int i)
  | str x => cases h; exact .base (.str x)
  | tup q m => cases h; exact sqT_ty q
  | frl q m => cases h; exact sqL_ty q.sq
  | @ref n a hn =>
    unfold tyO at h
    simp only at h
    split at h
    · rename_i ds hs
      cases h
      obtain ⟨xs, q1, q2⟩ := R.get hs hn
      exact .base (.lst q1)
    · rename_i ds hs
      cases h
      obtain ⟨xs, q1, q2⟩ := R.get hs hn
      exact .base (.dK q1)
    · rename_i ds hs
      cases h
      obtain ⟨xs, o, q1, q2⟩ := R.get hs hn
      exact .fDict q1
    · cases h
def mIs (T : Ty) (m : ME) : ME := m1 (fun d S => match tyO S d with
  | some t => .ok (.bl (isTy t T)) S
  | none => .stuck) m
theorem ce_isi (T : Ty) {x : Str} {p3 : Pos} (hT : T ≠ .non) (hg : Gl X "isinstance") (hm : X.mg "isinstance" = none) (hK : X.K = G.K) (hx : Gl X x) (hmx : X.mg x = none) (hv : bootBuiltins x = some (.type (tyS T))) (ha : PE X a (tM G W ma)) (hn : x ≠ "__name__" := by decide) (hd : (x == ("__debug__" : Str)) = false := by decide)
    (he : starEach [a, .Name x p3] X.env = (false, eval a X.env) :: starEach [.Name x p3] X.env := by rfl) (he2 : starEach [.Name x p3] X.env = (false, eval (.Name x p3) X.env) :: starEach [] X.env := by rfl) (hpl : (backTo pos (starEach [.Name x p3] X.env)).any (·.1) = false := by rfl) :
    PE X (.Call (.Name "isinstance" p2) [a, .Name x p3] [] pos) (tM G W (mIs T ma)) := by
  refine pe_imp (pe_callB call_isi hg hm PyProof.Rows.boot_isinstance (pa_cons ha (pa_cons (pe_bltn (v := .ty (tyS T)) hx hmx hv rfl hn hd) pa_nil he2) he) (by decide) (by decide) he hpl) fun σ H Q h => ?_
  obtain ⟨β, ρ, S, R, V, h⟩ := h
  refine ⟨β, ρ, S, R, V, h.bind.imp fun d S1 β1 H1 e1 R1 h1 x rx => ?_⟩
  dsimp only at h1
  split at h1
  · rename_i t ht
    refine ⟨x, .ty (tyS T), .type (tyS t), .type (tyS T), isTy t T, rfl, .ty _, ?_, kit_tys t T hT, h1 β1 H1 Ex.refl R1 _ (.bl _)⟩
    rw [hK]
    exact rx.ty R1 ht
  · exact h1.elim
end
end Mi
namespace Mi
open PySem PySem.Spec PyProof.Rows L2
abbrev W0 : WX := fun _ _ _ _ => False
/-- what holds of a context all along -/
structure Cn (X : Cx) (G : Gs) (W : WX) (k : Nat) : Prop where
  hK : X.K = G.K
  hr : Room k X.A
  calm : X.calm = true
  own : PassesOwn (model X.prog X.w) X.A X.env X.xe
  tk : Takes X W
  nd : X.N.Nodup
section
variable {X : Cx} {G : Gs} {W : WX} {k : Nat} {a b e o : Expr} {es : List Expr} {m ma mb mo : ME} {mr : MA} {pos p2 apos : Pos} {tg : Expr}
theorem Cn.hu (C : Cn X G W k) : X.A.units + 160 < cLine := by
  have := C.hr.un
  omega
theorem Cn.blk (C : Cn X G W k) (s : Shared) (H : Hp) (sc : Scope) (env : Env) (fp : List Addr) : Cn (X.blk s H sc env fp) G W0 k :=
  ⟨C.hK, C.hr, C.calm, PassesOwn.never, takes0, C.nd⟩
theorem Cn.pass (C : Cn X G W k) (σ : Sl) : PassesAt (L2.CX X.prog X.w) X σ (WE W σ) := passAt C.tk σ
theorem cn_of {P : Program} {w : World} {K : PySem.W.Frag} {mg : Str → Option Value} {base : Heap} {N : List Str} {qual : Str} {scope : Scope} {f : Addr} {cd : Value} {A : Around} {outer : List Env} {s : Shared} {H : Hp} {E : XK} {cl : Str → Option Addr}
    (hr : Room k (A.deeper (envOfC qual scope s.heap.objs.size f cd))) (nd : N.Nodup) : Cn (cxOf (L2.CX P w) P w K mg base N qual scope f cd A outer s H E) { K := K, cl := cl } (fun cls d _ H' => E cls d H') k :=
  ⟨rfl, hr, rfl, passes_of rfl, takes_of rfl rfl rfl rfl, nd⟩

/-! ### methods of builtins by values -/
def MethM (G : Gs) (T : String) (f : D → List D → So → Rs D) (r : V → List V → Hp → VK → Prop) : Prop := ∀ (W : WX) (β : List Addr) (S : So) (H : Hp) (x : V) (xs : List V) (d : D) (ds : List D) (Q : VK), Rl G.K G.cl β S H → RD G.K β H x d → RDs G.K β H xs ds →
  Gd G W β H (f d ds S) (kV G Q) → r x xs H Q
def mMeth (ok : So → D → Bool) (f : D → List D → So → Rs D) (mo : ME) (ma : MA) : ME := fun ρ S => (mo ρ S).bind fun d S1 => if ok S1 d then (ma ρ S1).bind fun ds S2 => f d ds S2 else .stuck
def isLst (S : So) (d : D) : Bool := match d with
  | .ref n => match S[n]? with
    | some (.lst _) => true
    | _ => false
  | _ => false
def isStr (S : So) (d : D) : Bool := match d with
  | .str _ => true
  | _ => false
def isDct (S : So) (d : D) : Bool := match d with
  | .ref n => match S[n]? with
    | some (.dct _) => true
    | _ => false
  | _ => false
theorem ty_lst {K : PySem.W.Frag} {cl : Str → Option Addr} {β : List Addr} {S : So} {H : Hp} {x : V} {d : D} (R : Rl K cl β S H) (r : RD K β H x d) (h : isLst S d = true) : tyV K "list" x H := by
  unfold isLst at h
  split at h
  · rename_i n
    cases r with
    | ref hn =>
      split at h
      · rename_i ds hs
        obtain ⟨xs, q, _⟩ := R.get hs hn
        exact .inl ⟨rfl, _, SqL.of q⟩
      · cases h
  · cases h
theorem ty_str {K : PySem.W.Frag} {cl : Str → Option Addr} {β : List Addr} {S : So} {H : Hp} {x : V} {d : D} (R : Rl K cl β S H) (r : RD K β H x d) (h : isStr S d = true) : tyV K "str" x H := by
  unfold isStr at h
  split at h
  · cases r
    rfl
  · cases h
theorem ty_dct {K : PySem.W.Frag} {cl : Str → Option Addr} {β : List Addr} {S : So} {H : Hp} {x : V} {d : D} (R : Rl K cl β S H) (r : RD K β H x d) (h : isDct S d = true) : tyV K "dict" x H := by
  unfold isDct at h
  split at h
  · rename_i n
    cases r with
    | ref hn =>
      split at h
      · rename_i ds hs
        obtain ⟨xs, q, _⟩ := R.get hs hn
        exact .inr (.inr (.inl ⟨rfl, .inl ⟨_, q⟩⟩))
      · cases h
  · cases h
theorem ce_meth {T id : String} {name : Str} {ok : So → D → Bool} {f : D → List D → So → Rs D} {r : V → List V → Hp → VK → Prop} (pa : PlainAttrs T) (slot : Slot T name id) (hty : typeOf (.builtin id) = pure (.type "method_descriptor")) (hm : MtR X id r) (hK : X.K = G.K)
    (hT : ∀ (β : List Addr) (S : So) (H : Hp) (x : V) (d : D), Rl G.K G.cl β S H → RD G.K β H x d → ok S d = true → tyV G.K T x H) (hf : MethM G T f r) (ho : PE X o (tM G W mo)) (ha : PA X (e :: es) (tA G W mr))
    (hbase : attributeBase o name X.env (eval o X.env) = eval o X.env := by rfl)
    (hfew : ((backTo pos (starEach (e :: es) X.env)).all (fun x => !x.1) && (backToKw pos (keywordEach [] X.env)).all (fun x => x.1.isSome)
      && decide ((e :: es).length + ([] : List Keyword).length + (if ([] : List Keyword).isEmpty then 0 else 1) < 30)) = true := by rfl)
    (hline : (apos.endLine == pos.line) = true := by rfl) (hs : starEach (e :: es) X.env = (false, eval e X.env) :: starEach es X.env := by rfl) (hplain : (backTo pos (starEach es X.env)).any (·.1) = false := by rfl) :
    PE X (.Call (.Attribute o name apos) (e :: es) [] pos) (tM G W (mMeth ok f mo mr)) := by
  refine pe_imp (pe_bm pa slot hty hm ho ha hbase hfew hline hs hplain) fun σ H Q h => ?_
  obtain ⟨β, ρ, S, R, V, h⟩ := h
  refine ⟨β, ρ, S, R, V, h.bind.imp fun d S1 β1 H1 e1 R1 h1 x rx => ?_⟩
  split at h1
  · rename_i hok
    refine ⟨by rw [hK]; exact hT β1 S1 H1 x d R1 rx hok, β1, ρ, S1, R1, V.mono e1, h1.bind.imp fun ds S2 β2 H2 e2 R2 h2 xs rs => ?_⟩
    exact hf W β2 S2 H2 x xs d ds Q R2 (rx.mono e2) rs h2
  · exact h1.elim
theorem ce_meth0 {T id : String} {name : Str} {ok : So → D → Bool} {f : D → List D → So → Rs D} {r : V → List V → Hp → VK → Prop} (pa : PlainAttrs T) (slot : Slot T name id) (hty : typeOf (.builtin id) = pure (.type "method_descriptor")) (hm : MtR X id r) (hK : X.K = G.K)
    (hT : ∀ (β : List Addr) (S : So) (H : Hp) (x : V) (d : D), Rl G.K G.cl β S H → RD G.K β H x d → ok S d = true → tyV G.K T x H) (hf : MethM G T f r) (ho : PE X o (tM G W mo))
    (hbase : attributeBase o name X.env (eval o X.env) = eval o X.env := by rfl) (hline : (apos.endLine == pos.line) = true := by rfl) :
    PE X (.Call (.Attribute o name apos) [] [] pos) (tM G W (mMeth ok f mo mNilA)) := by
  refine pe_imp (pe_bm0 pa slot hty hm ho hbase hline) fun σ H Q h => ?_
  obtain ⟨β, ρ, S, R, V, h⟩ := h
  refine ⟨β, ρ, S, R, V, h.bind.imp fun d S1 β1 H1 e1 R1 h1 x rx => ?_⟩
  split at h1
  · rename_i hok
    exact ⟨by rw [hK]; exact hT β1 S1 H1 x d R1 rx hok, hf W β1 S1 H1 x [] d [] Q R1 rx .nil h1⟩
  · exact h1.elim
/-- xs.append(y) -/
def appendD (d : D) (as : List D) (S : So) : Rs D := match d, as with
  | .ref n, [y] => match S[n]? with
    | some (.lst ds) => if ds.length < lim then .ok .non (S.set n (.lst (ds ++ [y]))) else .stuck
    | _ => .stuck
  | _, _ => .stuck
theorem mm_append : MethM G "list" appendD rAppend := by
  intro W β S H x xs d ds Q R rx rs h
  unfold appendD at h
  split at h
  · rename_i n y
    cases rx with
    | ref hn =>
      obtain ⟨v, rfl, ry⟩ := rs.one
      split at h
      · rename_i l hl
        obtain ⟨zs, q1, q2⟩ := R.get hl hn
        split at h
        · rename_i hc
          refine ⟨_, zs, v, rfl, rfl, q1, by rw [q2.length]; exact Nat.lt_trans hc lim_line, ?_⟩
          obtain ⟨R', e'⟩ := R.upd (ho := .lst (zs ++ [v])) (o' := .lst (l ++ [y])) hn (fun o u z => by rw [q1] at z; cases z) fun e' => ⟨_, upd_same, (q2.append (.cons ry .nil)).mono e'⟩
          exact h _ _ e' R' _ .non
        · exact h.elim
      · exact h.elim
  · exact h.elim
/-- sep.join(texts) -/
def strsO : List D → Option (List Str)
  | [] => some []
  | .str x :: ds => (strsO ds).map (x :: ·)
  | _ => none
def joinD (d : D) (as : List D) (S : So) : Rs D := match d, as with
  | .str a, [y] => match seqO S y with
    | some ds => match strsO ds with
      | some ys => if (ys.map (·.length)).sum + ys.length * a.length ≤ lim then .ok (.str (Txt.join a ys)) S else .stuck
      | none => .stuck
    | none => .stuck
  | _, _ => .stuck
theorem strs_rel {K : PySem.W.Frag} {β : List Addr} {H : Hp} : ∀ {xs : List V} {ds : List D} {ys : List Str}, RDs K β H xs ds → strsO ds = some ys → xs = ys.map V.str
  | _, _, ys, .nil, h => by cases h; rfl
  | _, _, ys, .cons (d := d) r m, h => by
    unfold strsO at h
    split at h
    · rename_i hh
      cases hh
    · rename_i x ds hh
      cases hh
      rename_i ds2 _
      cases r
      cases hq : strsO ds2 with
      | none => rw [hq] at h; cases h
      | some zs =>
        rw [hq] at h
        cases h
        rw [strs_rel m hq]
        rfl
    · cases h
theorem mm_join : MethM G "str" joinD (fun x xs H Q => ∃ a p, ∃ ys : List Str, x = .str a ∧ xs = [.ref p] ∧ (SqL G.K H p (ys.map V.str) ∨ SqT G.K H p (ys.map V.str)) ∧
    (ys.map (·.length)).sum + ys.length * a.length ≤ 16777216 ∧ Q (.str (Txt.join a ys)) H) := by
  intro W β S H x xs d ds Q R rx rs h
  unfold joinD at h
  split at h
  · rename_i a y
    cases rx
    obtain ⟨v, rfl, ry⟩ := rs.one
    split at h
    · rename_i es hes
      obtain ⟨p, zs, rfl, q, m⟩ := seq_rel R ry hes
      split at h
      · rename_i ys hys
        split at h
        · rename_i hc
          have := strs_rel m hys
          subst this
          exact ⟨a, p, ys, rfl, rfl, q, Nat.le_trans hc (by decide), h β H Ex.refl R _ (.str _)⟩
        · exact h.elim
      · exact h.elim
    · exact h.elim
  · exact h.elim

/-! ### f-strings -/
def fmtD (d : D) (S : So) : Rs D := match d with
  | .str x => if x.length ≤ lim then .ok (.str x) S else .stuck
  | .int i => if i.natAbs.log2 < 1920 then .ok (.str (toString i)) S else .stuck
  | _ => .stuck
theorem ce_fmt (ha : PE X a (tM G W ma)) : PE X (.FormattedValue a (-1) none pos) (tM G W (m1 fmtD ma)) := by
  refine pe_imp (pe_fmt ha) fun σ H Q h => ?_
  obtain ⟨β, ρ, S, R, V, h⟩ := h
  refine ⟨β, ρ, S, R, V, h.bind.imp fun d S1 β1 H1 e1 R1 h1 x rx => ?_⟩
  unfold fmtD at h1
  split at h1
  · cases rx
    split at h1
    · rename_i hc
      exact .inl ⟨_, rfl, lim_le hc, h1 β1 H1 Ex.refl R1 _ (.str _)⟩
    · exact h1.elim
  · cases rx
    split at h1
    · rename_i hc
      exact .inr ⟨_, rfl, hc, h1 β1 H1 Ex.refl R1 _ (.str _)⟩
    · exact h1.elim
  · exact h1.elim
inductive MJ (X : Cx) (G : Gs) (W : WX) : List Expr → List ME → Prop where
  | nil : MJ X G W [] []
  | cons {e : Expr} {m : ME} {es : List Expr} {ms : List ME} (h : PE X e (tM G W m)) (r : MJ X G W es ms) : MJ X G W (e :: es) (m :: ms)
theorem MJ.pj {es : List Expr} {ms : List ME} (h : MJ X G W es ms) : PJ X es (ms.map (tM G W)) := by
  induction h with
  | nil => exact .nil
  | cons h r ih => exact .cons h ih
def joinGo : List ME → Str → ME
  | [], acc => fun _ S => .ok (.str acc) S
  | m :: ms, acc => fun ρ S => (m ρ S).bind fun d S1 => match d with
    | .str y => if (acc ++ y).length ≤ lim then joinGo ms (acc ++ y) ρ S1 else .stuck
    | _ => .stuck
def mJoin (ms : List ME) : ME := joinGo ms Str.empty
theorem tM_join {Q : VK} : ∀ {ms : List ME} {acc : Str} {σ : Sl} {H : Hp}, tM G W (joinGo ms acc) σ H Q → tJs (ms.map (tM G W)) acc σ H (fun out H1 => Q (.str out) H1)
  | [], acc, σ, H, h => by
    obtain ⟨β, ρ, S, R, V, h⟩ := h
    exact h β H Ex.refl R _ (.str _)
  | m :: ms, acc, σ, H, h => by
    obtain ⟨β, ρ, S, R, V, h⟩ := h
    refine ⟨β, ρ, S, R, V, h.bind.imp fun d S1 β1 H1 e1 R1 h1 x rx => ?_⟩
    split at h1
    · cases rx
      split at h1
      · rename_i hc
        exact ⟨_, rfl, lim_le hc, tM_join ⟨β1, ρ, S1, R1, V.mono e1, h1⟩⟩
      · exact h1.elim
    · exact h1.elim
theorem ce_joined {v1 v2 : Expr} {rest : List Expr} {ms : List ME} (h : MJ X G W (v1 :: v2 :: rest) ms) : PE X (.JoinedStr (v1 :: v2 :: rest) pos) (tM G W (mJoin ms)) := pe_imp (pe_joined h.pj) fun σ H Q q => tM_join q
theorem ce_joined1 (h : PE X a (tM G W ma)) : PE X (.JoinedStr [a] pos) (tM G W ma) := pe_joined1 h

/-! ### calls of the program's own functions -/
def mCall (mf : MF) (n : Nat) (dds : List D) (ma : MA) : ME := fun ρ S => (ma ρ S).bind fun ds S1 => if (ds ++ dds).length = n then (match mf (ds ++ dds) S1 with
  | .ok d S2 => .ok d S2
  | .ex c _ S2 => .ex c ρ S2
  | .stuck => .stuck) else .stuck
/-- values of the written part that defaults are -/
def Dfl (K : PySem.W.Frag) (dvs : List V) (dds : List D) : Prop := ∀ (β : List Addr) (H : Hp), RDs K β H dvs dds
theorem sp_call {mf : MF} {n : Nat} {dds : List D} {dvs : List V} (hd : Dfl G.K dvs dds) {σ : Sl} {ρ : Ro} {β : List Addr} {S : So} {H : Hp} {vs : List V} {ds : List D} {Q : VK} (R : Rl G.K G.cl β S H) (V : RVs G β H σ ρ) (rs : RDs G.K β H vs ds)
    (h : Gd G W β H (if (ds ++ dds).length = n then (match mf (ds ++ dds) S with
      | .ok d S2 => .ok d S2
      | .ex c _ S2 => .ex c ρ S2
      | .stuck => .stuck : Rs D) else .stuck) (kV G Q)) : spM G.K G.cl n mf (vs ++ dvs) H Q (WE W σ) := by
  split at h
  · rename_i hn
    refine ⟨β, ds ++ dds, S, R, rs.append (hd β H), hn, ?_⟩
    cases hm : mf (ds ++ dds) S with
    | stuck => rw [hm] at h; exact h.elim
    | ok d S2 => rw [hm] at h; exact h
    | ex c ρ' S2 =>
      rw [hm] at h
      exact fun β' H' σ' cls d e' R' V' x => h β' H' σ cls d e' R' (V.mono e'.toEw) x
  · exact h.elim
theorem ce_call {f : Addr} {fd : FuncData} {ps : List Str} {n : Nat} {mf : MF} {dvs : List V} {dvals : List Value} {dds : List D} {x : Str} {j : Nat} (F : FnOk X.prog X.w X.K X.mg X.base (L2.CX X.prog X.w) j f fd ps (spM G.K G.cl n mf)) (C : Cn X G W k) (hj : j ≤ k) (hg : Gl X x) (hm : X.mg x = some (.ref f)) (hk : PySem.W.keepIn X.K (.ref f) = true)
    (hb : Binds X.K fd ps dvals) (hd : Vals dvs dvals) (hdd : Dfl G.K dvs dds) (ha : PA X (e :: es) (tA G W mr)) (hdb : (x == ("__debug__" : Str)) = false := by decide) (he : starEach (e :: es) X.env = (false, eval e X.env) :: starEach es X.env := by rfl) (hpl : (backTo pos (starEach es X.env)).any (·.1) = false := by rfl) :
    PE X (.Call (.Name x p2) (e :: es) [] pos) (tM G W (mCall mf n dds mr)) := by
  refine pe_imp (pe_callSD F (C.hr.mono hj) hg hm hk hb hd (fun σ => C.pass σ) ha hdb he hpl) fun σ H Q h => ?_
  obtain ⟨β, ρ, S, R, V, h⟩ := h
  refine ⟨β, ρ, S, R, V, h.bind.imp fun ds S1 β1 H1 e1 R1 h1 xs rs => ?_⟩
  exact sp_call hdd R1 (V.mono e1.toEw) rs h1
theorem ce_call0 {f : Addr} {fd : FuncData} {ps : List Str} {n : Nat} {mf : MF} {dvs : List V} {dvals : List Value} {dds : List D} {x : Str} {j : Nat} (F : FnOk X.prog X.w X.K X.mg X.base (L2.CX X.prog X.w) j f fd ps (spM G.K G.cl n mf)) (C : Cn X G W k) (hj : j ≤ k) (hg : Gl X x) (hm : X.mg x = some (.ref f)) (hk : PySem.W.keepIn X.K (.ref f) = true)
    (hb : Binds X.K fd ps dvals) (hd : Vals dvs dvals) (hdd : Dfl G.K dvs dds) (hdb : (x == ("__debug__" : Str)) = false := by decide) :
    PE X (.Call (.Name x p2) [] [] pos) (tM G W (mCall mf n dds mNilA)) := by
  refine ⟨fun pins s σ H Q I h => ?_⟩
  obtain ⟨β, ρ, S, R, V, h⟩ := h
  refine wpAny_Call_Name_kw (ld_glob I hg hm ?_ hdb)
  refine PySem.W.callWith_K0 I.kIn hk ?_
  exact run_fnSD (us := []) F (C.hr.mono hj) hb hd (C.pass σ) I .nil (sp_call hdd R V .nil h)

/-! ### a def by its body -/
def mFn (n N : Nat) (s : MS) : MF := fun ds S => (s (ds.map some ++ List.replicate (N - n) none) S).bind fun p S1 => match p.1 with
  | .nx => .ok .non S1
  | .rt d => .ok d S1
  | _ => .stuck
theorem start_rel {K : PySem.W.Frag} {cl : Str → Option Addr} {β : List Addr} {H : Hp} {vs : List V} {ds : List D} {N : List Str} (rs : RDs K β H vs ds) : RVs { K := K, cl := cl } β H (L2.start N vs) (ds.map some ++ List.replicate (N.length - ds.length) none) := by
  have hl := rs.length
  refine ⟨by unfold L2.start; simp [hl], fun i d h => ?_, fun p hp => by simp at hp, fun t ht => by simp at ht⟩
  by_cases hi : i < ds.length
  · rw [List.getElem?_append_left (by simpa using hi), List.getElem?_map] at h
    cases hd : ds[i]? with
    | none => rw [hd] at h; cases h
    | some d' =>
      rw [hd] at h
      cases h
      obtain ⟨v, h1, h2⟩ := rs.get hd
      refine ⟨v, ?_, h2⟩
      unfold L2.start
      rw [List.getElem?_append_left (by simpa [hl] using hi), List.getElem?_map, h1]
      rfl
  · rw [List.getElem?_append_right (by simpa using Nat.le_of_not_lt hi)] at h
    by_cases h2 : i - (ds.map some).length < N.length - ds.length
    · rw [List.getElem?_replicate, if_pos h2] at h
      cases h
    · rw [List.getElem?_replicate, if_neg h2] at h
      cases h
theorem fn_ok {P : Program} {w : World} {K : PySem.W.Frag} {mg : Str → Option Value} {base : Heap} {cl : Str → Option Addr} {x qual : Str} {st : Stmt} {f : Addr} {fd : FuncData} {N ps : List Str} {k n NN : Nat} {s : MS} (F : Fun K x qual st f fd) (S : FnScope N ps (defScope st)) (hn : ps.length = n) (hN : N.length = NN)
    (hbody : ∀ (cdv : Value) (A : Around) (outer : List Env) (sh : Shared) (H : Hp) (E : XK), Cn (cxOf (L2.CX P w) P w K mg base N qual (defScope st) f cdv A outer sh H E) { K := K, cl := cl } (fun cls d _ H' => E cls d H') k →
      PSs (cxOf (L2.CX P w) P w K mg base N qual (defScope st) f cdv A outer sh H E) (defBody st) (sM { K := K, cl := cl } (fun cls d _ H' => E cls d H') s)) : FnOk P w K mg base (L2.CX P w) (k + 1) f fd ps (spM K cl n (mFn n NN s)) := by
  refine F.okX S (fun vs H Q E h => ?_) (fun cdv A outer sh H vs Q E hr h => ⟨_, hbody cdv A outer sh H E (cn_of hr S.nd), ?_⟩)
  · obtain ⟨β, ds, S, R, rs, hl, _⟩ := h
    rw [rs.length, hl, hn]
  · obtain ⟨β, ds, S1, R, rs, hl, h⟩ := h
    subst hN
    refine ⟨β, _, S1, R, start_rel rs, ?_⟩
    unfold mFn at h
    rw [← hl] at h
    refine Gd.imp h.bind fun p S2 β2 H2 e2 R2 h2 => ?_
    obtain ⟨fl, ρ2⟩ := p
    cases fl with
    | nx => exact fun σ' V' => h2 β2 H2 Ex.refl R2 _ .non
    | rt d => exact fun v r => h2 β2 H2 Ex.refl R2 _ r
    | bk => exact h2.elim
    | ct => exact h2.elim
end
end Mi
namespace Mi
open PySem PySem.Spec PyProof.Rows L2
/-! ### list comprehensions -/
def wipeR (ρ : Ro) : List Nat → Ro
  | [] => ρ
  | v :: vs => (wipeR ρ vs).set v none
/-- binding within a block's own slots -/
def BindC (G : Gs) (vs : List Nat) (b : Bnd) (g : TG) : Prop := ∀ (β : List Addr) (S : So) (H : Hp) (σ : Sl) (ρ ρ' : Ro) (v : V) (d : D) (Q : Sl → Hp → Prop), Rl G.K G.cl β S H → RVs G β H σ ρ → RD G.K β H v d → b d ρ = some ρ' →
  (∀ σ', RVs G β H σ' ρ' → wipe σ' vs = wipe σ vs → Q σ' H) → g v σ H Q
theorem wipe_set {σ : Sl} {i : Nat} {x : Option V} : ∀ {vs : List Nat}, i ∈ vs → wipe (σ.set i x) vs = wipe σ vs
  | v :: vs, h => by
    unfold wipe
    by_cases hv : i ∈ vs
    · rw [wipe_set hv]
    · have : i = v := by rcases List.mem_cons.mp h with z | z; exact z; exact absurd z hv
      subst this
      have key : ∀ (vs : List Nat), i ∉ vs → wipe (σ.set i x) vs = (wipe σ vs).set i x := by
        intro vs
        induction vs with
        | nil => intro _; rfl
        | cons w ws ih =>
          intro hw
          simp only [List.mem_cons, not_or] at hw
          show (wipe (σ.set i x) ws).set w none = ((wipe σ ws).set w none).set i x
          rw [ih hw.2, List.set_comm _ _ hw.1]
      rw [key vs hv, List.set_set]
theorem bc_name {G : Gs} {i : Nat} {vs : List Nat} (hf : noFx G i) (hi : i ∈ vs) : BindC G vs (bN i) (gName i) := by
  intro β S H σ ρ ρ' v d Q R V r e h
  cases e
  exact h _ (V.set r hf) (wipe_set hi)
theorem bc_list {G : Gs} {β : List Addr} {H : Hp} {ws : List Nat} : ∀ (is : List Nat) (_ : ∀ i ∈ is, noFx G i) (_ : ∀ i ∈ is, i ∈ ws) (ds : List D) (vs : List V) (σ : Sl) (ρ ρ' : Ro) (Q : Sl → Hp → Prop), RVs G β H σ ρ → RDs G.K β H vs ds → bL is ds ρ = some ρ' →
    (∀ σ', RVs G β H σ' ρ' → wipe σ' ws = wipe σ ws → Q σ' H) → gL is vs σ H Q
  | [], _, _, [], vs, σ, ρ, ρ', Q, V, r, e, h => by
    cases r
    cases e
    exact ⟨rfl, h _ V rfl⟩
  | i :: is, hf, hw, d :: ds, vs, σ, ρ, ρ', Q, V, r, e, h => by
    cases r with
    | cons r1 r2 =>
      refine ⟨_, _, rfl, ?_⟩
      exact bc_list is (fun j hj => hf j (List.mem_cons_of_mem _ hj)) (fun j hj => hw j (List.mem_cons_of_mem _ hj)) ds _ _ _ ρ' Q (V.set r1 (hf i List.mem_cons_self)) r2 e fun σ' V' hs => h σ' V' (hs.trans (wipe_set (hw i List.mem_cons_self)))
  | [], _, _, _ :: _, _, _, _, _, _, _, _, e, _ => by cases e
  | _ :: _, _, _, [], _, _, _, _, _, _, _, e, _ => by cases e
theorem bc_tup {G : Gs} {is : List Nat} {n : Nat} {ws : List Nat} (hn : is.length = n) (hf : ∀ i ∈ is, noFx G i) (hw : ∀ i ∈ is, i ∈ ws) : BindC G ws (bT is) (gTup G.K n (gL is)) := by
  intro β S H σ ρ ρ' v d Q R V r e h
  unfold bT at e
  split at e
  · cases r with
    | tup q m =>
      refine ⟨_, _, rfl, q, ?_, bc_list is hf hw _ _ σ ρ ρ' Q V m e h⟩
      rw [m.length, bL_len e, hn]
  · cases e
theorem RVs.wipe {G : Gs} {β : List Addr} {H : Hp} {σ : Sl} {ρ : Ro} (V : RVs G β H σ ρ) : ∀ {vs : List Nat}, (∀ i ∈ vs, noFx G i) → RVs G β H (L2.wipe σ vs) (wipeR ρ vs)
  | [], _ => V
  | v :: vs, hf => (RVs.wipe V fun i hi => hf i (List.mem_cons_of_mem _ hi)).clear (hf v List.mem_cons_self)
theorem RVs.wiped {G : Gs} {β : List Addr} {H : Hp} {σ : Sl} {ρ : Ro} {vs : List Nat} (V : RVs G β H (L2.wipe σ vs) ρ) (hs : ∀ i ∈ vs, noFx G i) : True := trivial
def lcGo (it : IT) (bn : Bnd) (mt : MT) (m : ME) (n : Nat) : Nat → Nat → Ro → So → Rs D
  | 0, i, ρ, S => match it.at S i with
    | some none => .ok (.ref n) S
    | _ => .stuck
  | k + 1, i, ρ, S => match it.at S i with
    | some none => .ok (.ref n) S
    | some (some d) => match bn d ρ with
      | none => .stuck
      | some ρ1 => match mt ρ1 S with
        | .ok c S1 => if c then (match m ρ1 S1 with
          | .ok y S2 => match S2[n]? with
            | some (.lst acc) => if acc.length < lim then lcGo it bn mt m n k (i + 1) ρ (S2.set n (.lst (acc ++ [y]))) else .stuck
            | _ => .stuck
          | _ => .stuck) else lcGo it bn mt m n k (i + 1) ρ S1
        | _ => .stuck
    | none => .stuck
def mLc (mi : MI) (bn : Bnd) (mt : MT) (m : ME) (vs : List Nat) : ME := fun ρ S => (mi ρ S).bind fun it S1 => lcGo it bn mt m S1.length (it.len (S1 ++ [.lst []])) 0 (wipeR ρ vs) (S1 ++ [.lst []])
def mYes : MT := fun _ S => .ok true S
section
variable {X : Cx} {G : Gs} {W : WX} {k : Nat} {a b e o elt : Expr} {ifs : List Expr} {m ma mb mo : ME} {mt : MT} {mi : MI} {mr : MA} {pos p2 apos : Pos} {tg iter : Expr} {scope : Scope} {own : List (Str × Nat)} {bn : Bnd} {g : TG}
theorem cpts_nil : PTs X [] (tT G W mYes) := ⟨fun pins s σ H Q I h => pts_nil.run pins s σ H Q I (by
  obtain ⟨β, ρ, S, R, V, h⟩ := h
  exact h β H Ex.refl R)⟩
theorem cpts_one {c : Expr} (h : PT X c (tT G W mt)) : PTs X [c] (tT G W mt) := pts_one h
theorem Gd0.ok {α : Type} {β : List Addr} {H : Hp} {r : Rs α} {k : α → So → List Addr → Hp → Prop} (h : ∃ a S, r = .ok a S ∧ ∀ β' H', Ex β H β' H' → Rl G.K G.cl β' S H' → k a S β' H') : Gd G W β H r k := by
  obtain ⟨a, S, rfl, h⟩ := h
  exact h
theorem sM_lc {vs : List Nat} (hf : ∀ i ∈ vs, noFx G i) (hm : BindC G vs bn g) {σ : Sl} {H : Hp} {Q : VK} (h : tM G W (mLc mi bn mt m vs) σ H Q) : tLc (iM G W mi) g (tT G W0 mt) (tM G W0 m) vs σ H Q := by
  obtain ⟨β, ρ, S, R, V, h⟩ := h
  refine ⟨β, ρ, S, R, V, h.bind.imp fun it S1 β1 H1 e1 R1 h1 J hJ D hD => ?_⟩
  have V1 := (V.mono e1.toEw).wipe hf
  have eN := Ex.new (β := β1) (H := H1) (ho := .lst []) hD
  have RN : Rl G.K G.cl (β1 ++ [D]) (S1 ++ [.lst []]) (upd H1 D (.lst [])) := R1.new hD ⟨[], upd_same, .nil⟩
  refine ⟨fun i mm H => ∃ β S, Ex (β1 ++ [D]) (upd H1 D (.lst [])) β H ∧ Rl G.K G.cl β S H ∧ Gd G W β H (lcGo it bn mt m S1.length mm i (wipeR ρ vs) S) (kV G Q), ⟨_, β1 ++ [D], _, Ex.refl, RN, h1.mono eN⟩, ?_⟩
  rintro i mm H' ⟨β2, S2, e2, R2, h2⟩
  have e12 := eN.trans e2
  obtain ⟨j1, j2⟩ := hJ β2 S2 H' i e12 R2
  have hn2 : β2[S1.length]? = some D := e2.pre _ _ (last_of R1.len)
  have V2 := V1.mono e12.toEw
  cases mm with
  | zero =>
    unfold lcGo at h2
    split at h2
    · rename_i hz
      exact .inl ⟨j1 hz, h2 β2 H' Ex.refl R2 _ (.ref hn2)⟩
    · exact h2.elim
  | succ mm =>
    unfold lcGo at h2
    split at h2
    · rename_i hz
      exact .inl ⟨j1 hz, h2 β2 H' Ex.refl R2 _ (.ref hn2)⟩
    · rename_i d hd
      obtain ⟨go, yl⟩ := j2 d hd
      split at h2
      · exact h2.elim
      · rename_i ρ3 hb3
        refine .inr ⟨go, fun H => ∃ β S, Ex (β1 ++ [D]) (upd H1 D (.lst [])) β H ∧ Rl G.K G.cl β S H ∧ Gd G W β H (lcGo it bn mt m S1.length mm (i + 1) (wipeR ρ vs) S) (kV G Q), fun H' q => ⟨mm, Nat.lt_succ_self mm, q⟩, fun x H3 y => ?_⟩
        obtain ⟨e3, R3, rd⟩ := yl x H3 y
        refine hm β2 S2 H3 _ _ ρ3 x d _ R3 (V2.mono e3.toEw) rd hb3 fun σ4 V4 hw => ⟨hw.trans ?_, ?_⟩
        · clear hw h2 V2
          have key : ∀ (us ws : List Nat) (σ : Sl), (∀ i ∈ ws, i ∈ us) → wipe (wipe σ ws) us = wipe σ us := by
            intro us ws
            induction ws with
            | nil => intro σ _; rfl
            | cons w ws ih =>
              intro σ hw
              show wipe ((wipe σ ws).set w none) us = wipe σ us
              rw [wipe_set (hw w List.mem_cons_self)]
              exact ih σ fun i hi => hw i (List.mem_cons_of_mem _ hi)
          exact key vs vs σ fun i hi => hi
        · split at h2
          · rename_i c S4 ht
            refine ⟨β2, ρ3, S2, R3, V4, Gd0.ok ⟨c, S4, ht, fun β5 H5 e5 R5 => ?_⟩⟩
            cases c with
            | false =>
              unfold kT
              simp only [Bool.false_eq_true, if_false] at h2 ⊢
              exact ⟨β5, S4, e2.trans (e3.trans e5), R5, h2.mono (e3.trans e5)⟩
            | true =>
              unfold kT
              simp only [if_true] at h2 ⊢
              split at h2
              · rename_i y S6 hy
                refine ⟨β5, ρ3, S4, R5, V4.mono e5.toEw, Gd0.ok ⟨y, S6, hy, fun β6 H6 e6 R6 v rv => ?_⟩⟩
                split at h2
                · rename_i acc hacc
                  have hn6 : β6[S1.length]? = some D := (e3.trans (e5.trans e6)).pre _ _ hn2
                  obtain ⟨xs, q1, q2⟩ := R6.get hacc hn6
                  split at h2
                  · rename_i hl
                    obtain ⟨R7, e7⟩ := R6.upd (ho := .lst (xs ++ [v])) (o' := .lst (acc ++ [y])) hn6 (fun o u z => by rw [q1] at z; cases z) fun e' => ⟨_, upd_same, (q2.append (.cons rv .nil)).mono e'⟩
                    exact ⟨xs, q1, by rw [q2.length]; exact Nat.lt_trans hl lim_line, β6, _, e2.trans (e3.trans (e5.trans (e6.trans e7))), R7, h2.mono (e3.trans (e5.trans (e6.trans e7)))⟩
                  · exact h2.elim
                · exact h2.elim
              · exact h2.elim
          · exact h2.elim
    · exact h2.elim
theorem ce_lc (C : Cn X G W k) (hf : ∀ i ∈ own.map (·.2), noFx G i) (hm : BindC G (own.map (·.2)) bn g) (ok : BlkOk X.N X.env.scope scope own) (hi : PI X tg iter (iM G W mi))
    (hg : ∀ (s : Shared) (H : Hp) (C : Addr) (cl : List (Str × Addr)) (fp : List Addr), PG (X.blk s H scope (compEnvC scope cl C X.env) fp) tg g)
    (ht : ∀ (s : Shared) (H : Hp) (C : Addr) (cl : List (Str × Addr)) (fp : List Addr), Cn (X.blk s H scope (compEnvC scope cl C X.env) fp) G W0 k → PTs (X.blk s H scope (compEnvC scope cl C X.env) fp) ifs (tT G W0 mt))
    (he : ∀ (s : Shared) (H : Hp) (C : Addr) (cl : List (Str × Addr)) (fp : List Addr), Cn (X.blk s H scope (compEnvC scope cl C X.env) fp) G W0 k → PE (X.blk s H scope (compEnvC scope cl C X.env) fp) elt (tM G W0 m)) (hs : ∀ x, foldedSetIterable iter X.env x = pure x := by intro _; rfl) :
    PE X (.ListComp elt [⟨tg, iter, ifs, 0⟩] scope pos) (tM G W (mLc mi bn mt m (own.map (·.2)))) :=
  pe_imp (pe_lc C.calm C.nd hi ok hg (fun s H c cl fp => ht s H c cl fp (C.blk _ _ _ _ _)) (fun s H c cl fp => he s H c cl fp (C.blk _ _ _ _ _)) hs) fun _ _ _ h => sM_lc hf hm h
theorem cs_setLc {i : Nat} {y : Str} {py spos : Pos} (C : Cn X G W k) (hfi : noFx G i) (hy : X.N[i]? = some y) (hyl : X.env.scope.names.lookup y = some .local)
    (hsw : swapsWith (.ListComp elt [⟨tg, iter, ifs, 0⟩] scope pos) (some (.Name y py)) spos.line X.env = pure true) (hf : ∀ i ∈ own.map (·.2), noFx G i) (hm : BindC G (own.map (·.2)) bn g) (ok : BlkOk X.N X.env.scope scope own) (hi : PI X tg iter (iM G W mi))
    (hg : ∀ (s : Shared) (H : Hp) (C : Addr) (cl : List (Str × Addr)) (fp : List Addr), PG (X.blk s H scope (compEnvC scope cl C X.env) fp) tg g)
    (ht : ∀ (s : Shared) (H : Hp) (C : Addr) (cl : List (Str × Addr)) (fp : List Addr), Cn (X.blk s H scope (compEnvC scope cl C X.env) fp) G W0 k → PTs (X.blk s H scope (compEnvC scope cl C X.env) fp) ifs (tT G W0 mt))
    (he : ∀ (s : Shared) (H : Hp) (C : Addr) (cl : List (Str × Addr)) (fp : List Addr), Cn (X.blk s H scope (compEnvC scope cl C X.env) fp) G W0 k → PE (X.blk s H scope (compEnvC scope cl C X.env) fp) elt (tM G W0 m)) (hs : ∀ x, foldedSetIterable iter X.env x = pure x := by intro _; rfl) :
    PS X (.Assign [.Name y py] (.ListComp elt [⟨tg, iter, ifs, 0⟩] scope pos) spos) (sM G W (mAsg (mLc mi bn mt m (own.map (·.2))) (bN i))) := by
  refine ps_imp (ps_setLc C.calm C.nd hy hyl hsw hi ok hg (fun s H c cl fp => ht s H c cl fp (C.blk _ _ _ _ _)) (fun s H c cl fp => he s H c cl fp (C.blk _ _ _ _ _)) hs) fun D σ H h => ?_
  have h2 := sM_asg (bm_name hfi) h
  exact sM_lc hf hm h2
end
end Mi
namespace Mi
open PySem PySem.Spec PyProof.Rows L2
/-! ### an own exception's __init__ that calls super().__init__(text) and stores its one argument -/
/-- what is written of such an __init__ -/
structure SupTxt (P : Program) (K : PySem.W.Frag) (mg : Str → Option Value) (st : Stmt) (qual : Str) (f : Addr) (fd : FuncData) (C : Addr) : Prop where
  ex : ∃ (oc : Value) (od : Option Addr) (kV doc pm : Value) (an : Option Addr) (cda cc : Addr) (ct : Value) (osl : Array (Option Value)),
    fd = PySem.W.fnX "__init__" qual (defArgs st) (defBody st) (defScope st) [("__class__", cc)] .none kV doc pm an (.ref cda) ct ∧ K.lookup f = some ⟨oc, od, .func fd, osl⟩ ∧ PySem.W.codeIn K (.ref cda) qual = true ∧
    (∃ (ccl : Value) (cdd : Option Addr) (vs : Array Value) (ccs : Array (Option Value)) (file : Str) (tf : Tok), K.lookup cda = some ⟨ccl, cdd, .fields vs, ccs⟩ ∧ vs[2]? = some (.str file tf) ∧ ((P.main.file : Str) == file) = true) ∧
    ∃ (cl : Value) (cld : Option Addr) (csl : Array (Option Value)), K.lookup cc = some ⟨cl, cld, .cell (some (.ref C)), csl⟩
  top : (P.main.scope.names.lookup ("super" : Str)).isSome = false
  sup : mg "super" = none
  opq : PySem.W.nsIn K PySem.cStatics "thirdparty.any" = some none
  own : PySem.W.mroIn K C (.ref C) = some true
  val : PySem.W.subIn K (.ref C) (.type "ValueError") = some true
  ini : PySem.W.ks_superIn K C C "__init__" = some (some (.builtin "ValueError.__init__"))
def spSup (C : Addr) (fld : Str) : Sp := fun vs H Q _ => ∃ (a : Addr) (y : V), vs = [.ref a, y] ∧ H a = some (exo a C none) ∧ ∀ dx, H dx = none → dx ≠ a → Q .non (upd (upd H dx (exd dx [(fld, y)])) a (exo a C (some dx)))
section
variable {P : Program} {w : World} {K : PySem.W.Frag} {mg : Str → Option Value} {base : Heap}
/-- the shape of the def -/
structure SupSt (st : Stmt) (px fld t : Str) : Prop where
  body : ∃ (p0 p1 p2 p3 p4 p5 p6 p7 p8 p9 : Pos) (j : Nat), defBody st = [.Expr (.Call (.Attribute (.Call (.Name "super" p0) [] [] p1) "__init__" p2) [.Constant (.str t) j p3] [] p4) p5, .Assign [.Attribute (.Name "self" p6) fld p7] (.Name px p8) p9] ∧
    ∀ env : Env, ∃ pl : Sem Bool, eval (.Call (.Attribute (.Call (.Name "super" p0) [] [] p1) "__init__" p2) [.Constant (.str t) j p3] [] p4) env = (do
      let ov ← attributeBase (.Call (.Name "super" p0) [] [] p1) "__init__" env (eval (.Call (.Name "super" p0) [] [] p1) env)
      standAt p2.atName
      let (f, first) ← holding [ov] (getMethod ov "__init__" pl)
      callWith p4 f first (backTo p4 (starEach [.Constant (.str t) j p3] env)) [])
  sc : NdefX.NScope ["self", px, "__class__"] ["self", px] ["__class__"] (defScope st)
  par : ((defArgs st).posonlyargs ++ (defArgs st).args).head?.map (·.arg) = some "self"
  sup : (defScope st).names.lookup ("super" : Str) = some .globalImplicit
  sf : (("self" : Str) == ("__debug__" : Str)) = false
theorem sup_ok {st : Stmt} {qual : Str} {f : Addr} {fd : FuncData} {C : Addr} {px fld t : Str} (F : SupTxt P K mg st qual f fd C) (B : SupSt st px fld t) (T : OexC K C) (hno : PySem.W.findIn K (.ref C) fld = some none) (hd : (px == ("__debug__" : Str)) = false) (hcd : (px == ("__classdict__" : Str)) = false) :
    FnOk P w K mg base (L2.CX P w) 1 f fd ["self", px] (spSup C fld) := by
  obtain ⟨oc, od, kV, doc, pm, an, cda, cc, ct, osl, rfl, lk, hcode, ⟨ccl, cdd, cvs, ccs, file, tf, hco, hvs, hfile⟩, cl, cld, csl, hcell⟩ := F.ex
  obtain ⟨p0, p1, p2, p3, p4, p5, p6, p7, p8, p9, j, hbody, hev⟩ := B.body
  have S := B.sc
  refine ⟨fun vs H Q E h => ?_, fun A outer s H args us vs Q E hr e0 hb r hsp => ?_⟩
  · obtain ⟨a, y, rfl, _⟩ := h
    rfl
  · have KX : K.In s.heap := e0.mod.kin.keeps fun b o e => (e0.bs b o e).1
    have lim : s.heap.NoLimit := e0.mod.nolimit.keeps fun b o e => (e0.bs b o e).1
    have hl : vs.length = (["self", px] : List Str).length := by
      obtain ⟨a, y, rfl, _⟩ := hsp
      rfl
    let NFF : NdefX.NF := ⟨"__init__", qual, defArgs st, defBody st, defScope st, [("__class__", cc)], cda⟩
    have hcc := KX _ _ hcell
    have nC : H cc = none := (e0.bs cc _ (e0.mod.kin cc _ hcell)).2
    have CA : NdefX.CellsAt NFF.cl ["__class__"] [none] s.heap H := by
      refine ⟨rfl, fun y c e => ?_, fun x y c e1 e2 => ?_, fun i y e => ?_⟩
      · have : c = cc := by
          have e' : List.lookup y [(("__class__" : Str), cc)] = some c := e
          simp only [List.lookup] at e'
          split at e'
          · exact (Option.some.inj e').symm
          · cases e'
        subst this
        exact ⟨nC, _, _, hcc, rfl⟩
      · have key : ∀ {z : Str} {c : Addr}, List.lookup z [(("__class__" : Str), cc)] = some c → z = "__class__" := fun {z c} e' => by
          simp only [List.lookup] at e'
          split at e'
          · rename_i q
            exact eq_of_beq q
          · cases e'
        exact (key e1).trans (key e2).symm
      · match i, e with
        | 0, e =>
          cases e
          exact ⟨cc, by simp [NFF, List.lookup], fun v ev => by simp at ev⟩
        | i + 1, e => simp at e
    refine ks_codeAny_call_defAt (fd := PySem.W.fnX "__init__" qual (defArgs st) (defBody st) (defScope st) [("__class__", cc)] .none kV doc pm an (.ref cda) ct) (body := defBody st) (binds := (["self", px] : List Str).zip us) hr.depth (KX _ _ lk) rfl lim (PySem.W.codeRec_of KX hcode) rfl hb S.nocell (fun ⟨n, _⟩ hy => S.par n (List.of_mem_zip hy).1) (fun h₁ hns kp => ?_) S.co S.gen S.kind
    have I : Inv (NdefX.ncx (L2.CX P w) P w K mg base ["self", px, "__class__"] NFF f A outer s H E) [] (NdefX.startF ["self", px, "__class__"] vs [none]) H { s with heap := h₁, toks := s.toks + ((["self", px] : List Str).zip us).length } := NdefX.inv_startN S hr.hd e0 hl r CA hns kp
    generalize hA' : A.deeper (NdefX.envF NFF f s.heap.objs.size) = A'
    show _root_.PySem.wpAt (model P w) (A.deeper (NdefX.envF NFF f s.heap.objs.size)) (.func (defBody st) (NdefX.envF NFF f s.heap.objs.size)) (execs (defBody st) (NdefX.envF NFF f s.heap.objs.size)) _ _ _
    have hex : execs (defBody st) (NdefX.envF NFF f s.heap.objs.size) = execs [.Expr (.Call (.Attribute (.Call (.Name "super" p0) [] [] p1) "__init__" p2) [.Constant (.str t) j p3] [] p4) p5, .Assign [.Attribute (.Name "self" p6) fld p7] (.Name px p8) p9] (NdefX.envF NFF f s.heap.objs.size) := by rw [hbody]
    rw [hex]
    obtain ⟨a, y, rfl, ea, fin⟩ := hsp
    -- the arguments' values
    obtain ⟨u2, hus, ry⟩ : ∃ u2, us = [Value.ref a, u2] ∧ RelV y u2 := by
      cases r with
      | cons r1 rr =>
        cases rr with
        | cons r2 rr =>
          cases rr
          cases r1
          exact ⟨_, rfl, r2⟩
    subst hus
    obtain ⟨nm, q, N, bs, bm, sn, sub, ab, col, dd, k0, k1, k2, k3, k5, lC, hbm⟩ := T.cls
    have hcl : PySem.W.clsIn K C = some { name := nm, bases := bs, mro := .ref C :: bm, ns := N, qualname := q, hasDict := true, slotNames := sn, subclasses := sub, abstract := ab, collection := col, hasDel := false } := by unfold PySem.W.clsIn; rw [lC] <;> rfl
    have kin : ∀ b o, K.lookup b = some o → h₁.get? b = some o := fun b o e => kp _ _ (KX _ _ e)
    obtain ⟨t1, ho⟩ := exo_at I.hok ea
    have hI : PySem.W.InstAt h₁ a { cls := .ref C, dict := none, data := .fields #[.ref t1, .none, .none, .none, .bool false, .none] } C none := ⟨ho, rfl, rfl, trivial⟩
    have iq : interactive (NdefX.envF NFF f s.heap.objs.size) = false := I.quiet
    have swf : swapsWith (.Call (.Attribute (.Call (.Name "super" p0) [] [] p1) "__init__" p2) [.Constant (.str t) j p3] [] p4) none p5.line (NdefX.envF NFF f s.heap.objs.size) = pure false := by rfl
    obtain ⟨pl, hev⟩ := hev (NdefX.envF NFF f s.heap.objs.size)
    refine ks_wpAt_execs_cons (ks_wpAt_Expr_any (ks_wpAt_MethodCall (pl := pl) ?_ hev) iq swf)
    have kk : (defScope st).kind = .function := S.kind
    have hkc : (defScope st).names.lookup ("__class__" : Str) = some .free := S.frk _ (by simp)
    have hks : (defScope st).names.lookup ("self" : Str) = some .local := S.par _ (by simp)
    obtain ⟨ar, har, hself⟩ : ∃ ar, ((defArgs st).posonlyargs ++ (defArgs st).args).head? = some ar ∧ ar.arg = "self" := by
      have := B.par
      cases hh : ((defArgs st).posonlyargs ++ (defArgs st).args).head? with
      | none => rw [hh] at this; cases this
      | some ar => rw [hh] at this; exact ⟨ar, rfl, Option.some.inj this⟩
    have hzip : ((["self", px] : List Str).zip [Value.ref a, u2]).reverse.lookup ("self" : Str) = some (.ref a) := by
      have nd := S.nd
      have h1 : ¬ (("self" : Str) = px) := by
        intro z
        rw [z] at nd
        simp at nd
      have h2 : (("self" : Str) == px) = false := by simpa using h1
      show List.lookup ("self" : Str) [(px, u2), (("self" : Str), Value.ref a)] = some (.ref a)
      simp [List.lookup, h2]
    refine ks_wpAt_super_base (env := NdefX.envF NFF f s.heap.objs.size) B.sup hkc (by decide) rfl (kp _ _ (KX _ _ lk)) rfl har rfl (kin _ _ hco) rfl hvs hfile F.top ?_
    obtain ⟨mb, hb1, hb2⟩ := I.mod.blt
    refine PySem.W.ks_loadName_global kk B.sup (Calls.loadGlobal_builtin (I.mod.glob.keeps I.bk) F.sup (hb1.keeps I.bk) ((hb2 "super" (by decide)).trans (by first | boot_by_name | rfl | kernel_rfl)) ⟨rfl, ?_⟩)
    refine wpAny_loadName_free kk hkc (c := cc) (v := .ref C) (by simp [NFF, List.lookup]) ⟨_, kin _ _ hcell, rfl⟩ ?_
    rw [hself]
    refine wpAny_loadName_local kk hks hns hzip ?_
    refine ks_wpAny_isType_cls (kin _ _ lC) rfl ⟨rfl, ?_⟩
    refine ks_wpAny_call_super (C := C) (kin _ _ lC) rfl ho rfl (fun c z => by cases z) (PySem.W.looks_mroIn kin F.own) (fun h2 e2 k2 => ?_)
    have I2 : Inv (NdefX.ncx (L2.CX P w) P w K mg base ["self", px, "__class__"] NFF f A outer s H E) [] (NdefX.startF ["self", px, "__class__"] [V.ref a, y] [none]) H { s with heap := h2, toks := s.toks + ((["self", px] : List Str).zip [Value.ref a, u2]).length } := I.kept (t' := s.toks + ((["self", px] : List Str).zip [Value.ref a, u2]).length) fun b o e => k2 b o e
    have kin2 : ∀ b o, K.lookup b = some o → h2.get? b = some o := fun b o e => k2 _ _ (kin _ _ e)
    have hI2 : PySem.W.InstAt h2 a { cls := .ref C, dict := none, data := .fields #[.ref t1, .none, .none, .none, .bool false, .none] } C none := ⟨k2 _ _ ho, rfl, rfl, trivial⟩
    have hini := F.ini
    unfold PySem.W.ks_superIn at hini
    rw [hcl] at hini
    refine PySem.W.kxs_getMethod PySem.W.kxs_ValueError e2 (PySem.W.looks_opaque kin2 F.opq) (l₀ := .ref C :: bm) (fun A Q E s k q => wpAny_bind ((PySem.W.looks_clsIn kin2 hcl) A _ E s k (wpAny_pure q))) rfl kin2 hini (hI2.type.andThen (PySem.W.looks_subIn kin2 F.val)) (PySem.W.ks_ne kin2 hI2 hcl) (by decide) ?_
    refine PySem.W.kxs_callWith (i := "ValueError.__init__") (x := a) (by rfl) (Calls.evalArgs_plain ?_)
    refine Calls.spliced_cons (Calls.Constant_str (k := j) (pos := p3) (Calls.spliced_nil ⟨Heap.get?_push_at rfl rfl, ?_⟩))
    have FB := PySem.F.excBase_ValueError
    have hz1 : ([Value.str t (s.toks + ((["self", px] : List Str).zip [Value.ref a, u2]).length + 1)] : List Value).length ≤ sizeLine := by rw [sizeLine_eq]; show 1 ≤ 16777216; decide
    have k3 : ∀ b o, h2.get? b = some o → (h2.push (PySem.W.kxs_mw "ValueError.__init__" a)).get? b = some o := fun b o e => Heap.get?_push_of_some _ e
    have I3 : Inv (NdefX.ncx (L2.CX P w) P w K mg base ["self", px, "__class__"] NFF f A outer s H E) [] (NdefX.startF ["self", px, "__class__"] [V.ref a, y] [none]) H { s with heap := h2.push (PySem.W.kxs_mw "ValueError.__init__" a), toks := s.toks + ((["self", px] : List Str).zip [Value.ref a, u2]).length + 1 + 1 } :=
      I2.kept (t' := s.toks + ((["self", px] : List Str).zip [Value.ref a, u2]).length + 1 + 1) fun b o e => k3 b o e
    refine wpAny_call (codeAny_of_tree ?_)
    show wpAny _ (A.deeper (NdefX.envF NFF f s.heap.objs.size)).in1 (callAny (.ref h2.objs.size) ⟨[] ++ [Value.str t (s.toks + ((["self", px] : List Str).zip [Value.ref a, u2]).length + 1)], []⟩) _ _ _
    simp only [callAny]
    refine wpAny_bind (wpAny_load (Heap.get?_push_at rfl rfl) ?_)
    simp only [PySem.W.kxs_mw, show (Value.type "method-wrapper" == Value.type "method" || Value.type "method-wrapper" == Value.type "builtin_function_or_method" || Value.type "method-wrapper" == Value.type "method-wrapper") = true by decide, if_true]
    refine PySem.W.KFB.if_so (by decide) ?_
    refine wpAny_bind (PySem.W.check_bound_init FB.toExcCallFacts (k3 _ _ (kin2 _ _ lC)) (k3 _ _ (k2 _ _ ho)) rfl ?_)
    refine wpAny_bind (wpAny_pure (wpAny_pure ?_))
    refine ⟨plainId_quiet FB.init.plain _, codeAny_builtin FB.initEntry ?_⟩
    refine PySem.W.exc_init_tree (cls := .ref C) (t0 := t1) (dv := none) (c2 := .none) (c3 := .none) (b4 := .bool false) (k3 _ _ (k2 _ _ ho)) hz1 (fun h4 k4 hx4 _ => ?_)
    have I4 := I3.write (t' := s.toks + ((["self", px] : List Str).zip [Value.ref a, u2]).length + 1 + 1) (x := a) (e := a) (o := exo a C none) (by rw [ea]; exact True.intro) (.inl rfl) k4 ⟨_, hx4⟩ (exo_ok hx4)
    have eu : upd H a (exo a C none) = H := by
      funext b
      by_cases hb : b = a
      · rw [hb, upd_same, ea]
      · rw [upd_ne hb]
    rw [eu] at I4
    refine wpAt_of_wpAny ?_
    have hvs0 : Vis (NdefX.ncx (L2.CX P w) P w K mg base ["self", px, "__class__"] NFF f A outer s H E).env.scope ("self" : Str) := .inl hks
    have hvs1 : Vis (NdefX.ncx (L2.CX P w) P w K mg base ["self", px, "__class__"] NFF f A outer s H E).env.scope px := .inl (S.par _ (by simp))
    have term : PSs (NdefX.ncx (L2.CX P w) P w K mg base ["self", px, "__class__"] NFF f A outer s H E) [.Assign [.Attribute (.Name "self" p6) fld p7] (.Name px p8) p9] (tOst K fld (tVar 0) (tVar 1)) :=
      pss_one (ps_ost (X := NdefX.ncx (L2.CX P w) P w K mg base ["self", px, "__class__"] NFF f A outer s H E) (pv 0 rfl hvs0) (pv 1 rfl hvs1 hd hcd))
    have hread : tOst K fld (tVar 0) (tVar 1) { nx := fun _ H' => Q .non H', rt := Q } (NdefX.startF ["self", px, "__class__"] [V.ref a, y] [none]) H :=
      ⟨y, rfl, V.ref a, rfl, a, C, rfl, T, hno, .inl ⟨ea, fun dx n ne => fin dx n ne⟩⟩
    refine wpAny_mono (term.run [] _ _ H _ I4 hread) (fun fl s' hs => ?_) fun e s' hs => hs
    have done : ∀ {σ' : L2.St} {H' : Hp} {v : V} {u : Value}, Inv (NdefX.ncx (L2.CX P w) P w K mg base ["self", px, "__class__"] NFF f A outer s H E) [] σ' H' s' → L2.RelV v u → Q v H' → CE outer P w H s Q u s' :=
      fun {σ' H' v u} J rv q => ⟨v, H', J.os, J.bare, J.base, J.hok, rv, q⟩
    cases fl with
    | ret u =>
      obtain ⟨v, σ', H', J, rv, q⟩ := hs
      exact done J rv q
    | next =>
      obtain ⟨σ', H', J, q⟩ := hs
      exact done (v := V.non) (u := Value.none) J rfl q
    | brk =>
      obtain ⟨_, _, _, q⟩ := hs
      exact False.elim q
    | cont =>
      obtain ⟨_, _, _, q⟩ := hs
      exact False.elim q
end
end Mi
namespace Mi
open PySem PySem.Spec PyProof.Rows L2
/-! ### raise C(e) -/
/-- what a raise of the own error asks -/
structure ErrC (P : Program) (w : World) (K : PySem.W.Frag) (mg : Str → Option Value) (base : Heap) (cl : Str → Option Addr) (nm fld : Str) : Prop where
  at_ : ∃ (C f : Addr) (fd : FuncData) (px : Str), mg nm = some (.ref C) ∧ cl nm = some C ∧ OexC K C ∧ PySem.W.findIn K (.ref C) "__init__" = some (some (.ref f)) ∧ PySem.W.typeIn K (.ref f) = some (.type "function") ∧
    FnOk P w K mg base (L2.CX P w) 1 f fd ["self", px] (spSup C fld) ∧ Binds K fd ["self", px] []
def mRaise (nm fld : Str) (m : ME) : MS := fun ρ S => (m ρ S).bind fun d S1 => .ex { cls := nm, fs := [(fld, d)] } ρ S1
section
variable {X : Cx} {G : Gs} {W : WX} {k : Nat} {e : Expr} {m : ME} {pos p2 p3 : Pos}
theorem xd_eq {H : Hp} {a dx C : Addr} {fld : Str} {y : V} (ha : H a = none) (hd : dx ≠ a) : upd (del (upd (upd (upd H a (exo a C none)) dx (exd dx [(fld, y)])) a (exo a C (some dx))) a) dx (.xd [(fld, y)]) = upd H dx (.xd [(fld, y)]) := by
  funext b
  by_cases hb : b = dx
  · rw [hb, upd_same, upd_same]
  · rw [upd_ne hb, upd_ne hb]
    by_cases hba : b = a
    · rw [hba, del_same, ha]
    · rw [del_ne hba, upd_ne hba, upd_ne hb, upd_ne hba]
theorem cs_raise {nm fld : Str} (E : ErrC X.prog X.w X.K X.mg X.base G.cl nm fld) (C : Cn X G W k) (hk : 2 ≤ k) (hg : Gl X nm) (ha : PE X e (tM G W m)) (hdb : (nm == ("__debug__" : Str)) = false := by decide)
    (he : starEach [e] X.env = (false, eval e X.env) :: starEach [] X.env := by rfl) (hpl : (backTo p3 (starEach [] X.env)).any (·.1) = false := by rfl) : PS X (.Raise (some (.Call (.Name nm p2) [e] [] p3)) none pos) (sM G W (mRaise nm fld m)) := by
  obtain ⟨Ca, f, fd, px, hm, hcl, T, iC, tI, F1, hb⟩ := E.at_
  refine ps_imp (ps_raise C.calm C.tk (pmk_oex T iC tI F1 (C.hr.mono hk) hb (.nil : Vals [] []) passL hg hm (ca_cons (G := G) (W := W) ha ca_nil he) hdb he hpl)) fun D σ H h => ?_
  obtain ⟨β, ρ, S, R, Vr, h⟩ := h
  refine ⟨β, ρ, S, R, Vr, ?_⟩
  have key : Gd G W β H ((mConsA m mNilA) ρ S) (kA G fun vs H1 => vs.length ≤ 1000 ∧ ∀ a, H1 a = none → spSup Ca fld (.ref a :: (vs ++ [])) (upd H1 a (exo a Ca none)) (fun v H2 => v = .non ∧ ∃ (d : Addr) (fs : List (Str × L2.V)), H2 a = some (exo a Ca (some d)) ∧ H2 d = some (exd d fs) ∧ H1 d = none ∧ W (.ref Ca) (some d) σ (upd (del H2 a) d (.xd fs))) (fun _ _ _ => False)) := by
    unfold mConsA
    unfold mRaise at h
    cases hm : m ρ S with
    | stuck => rw [hm] at h; exact h.elim
    | ex c r S1 => rw [hm] at h; exact h
    | ok d S1 =>
      rw [hm] at h
      intro β1 H1 e1 R1 vs rs
      obtain ⟨y, rfl, ry⟩ := rs.one
      refine ⟨Nat.succ_le_succ (Nat.zero_le _), fun a hna => ⟨a, y, rfl, upd_same, fun dx hdx hne => ⟨rfl, dx, [(fld, y)], upd_same, ?_, ?_, ?_⟩⟩⟩
      · rw [upd_ne hne, upd_same]
      · rw [upd_ne hne] at hdx
        exact hdx
      · have hdx' : H1 dx = none := by
          rw [upd_ne hne] at hdx
          exact hdx
        rw [xd_eq hna hne]
        have ef := Ex.fresh (β := β1) (ho := HO.xd [(fld, y)]) hdx'
        exact h β1 _ σ _ _ (e1.trans ef) (R1.fresh hdx') (Vr.mono (e1.trans ef).toEw) ⟨Ca, dx, [(fld, y)], hcl, rfl, rfl, upd_same, .cons ⟨rfl, ry.mono ef.toEw⟩ .nil⟩
  exact key

/-! ### try: .. except C as n: .. -/
abbrev Is := Str → Option Bool
def mTryAs (is : Is) (i : Nat) (mb : MS) (ms : Exn → MS) : MS := fun ρ S => match mb ρ S with
  | .ok p S1 => .ok p S1
  | .stuck => .stuck
  | .ex c ρ1 S1 => match is c.cls with
    | some true => if i < ρ1.length then (match ms c (ρ1.set i none) S1 with
      | .ok p S2 => .ok (p.1, p.2.set i none) S2
      | _ => .stuck) else .stuck
    | some false => .ex c ρ1 S1
    | none => .stuck
/-- the suite's own facts: e at slot i -/
def Gs.suite (G : Gs) (i : Nat) (a : Addr) (cls : Value) (d : Option Addr) (c : Exn) : Gs := { G with fx := (i, V.ref a) :: G.fx, xx := (cls, d, c) :: G.xx }
theorem ps_ex {X : Cx} {st : List Stmt} {α : Type} {t : α → TS} (h : ∀ c, PSs X st (t c)) : PSs X st (fun D σ H => ∃ c, t c D σ H) := ⟨fun pins s σ H D I ⟨c, q⟩ => (h c).run pins s σ H D I q⟩
theorem RVs.out {i : Nat} {a : Addr} {cls : Value} {d : Option Addr} {c : Exn} {β : List Addr} {H : Hp} {σ : Sl} {ρ : Ro} (h : RVs (G.suite i a cls d c) β H σ ρ) : RVs G β H σ ρ :=
  ⟨h.len, h.slot, fun p hp => h.fx p (List.mem_cons_of_mem _ hp), fun t ht => h.xx t (List.mem_cons_of_mem _ ht)⟩
theorem cs_tryAs {is : Is} {i : Nat} {n x : Str} {cv : Value} {body suite : List Stmt} {b₀ : Stmt} {mb : MS} {ms : Exn → MS} {np pos' : Pos} (C : Cn X G W k) (hs : X.stack = X.env :: X.outer) (hf : X.env.frame = some X.env.locals) (hi : X.N[i]? = some n) (hln : X.env.kindOf n = some .local) (hc : Names X x cv)
    (hfx : noFx G i) (his : ∀ (nm : Str) (Ca : Addr) (b : Bool), G.cl nm = some Ca → is nm = some b → PySem.W.exmOne X.K (.ref Ca) cv = some b)
    (hb : ∀ (W' : WX) (pn : List (Addr × Obj)) (xe : Value → Shared → Prop), Cn (X.tr pn xe) G W' k → PSs (X.tr pn xe) body (sM G W' mb))
    (hsu : ∀ (a : Addr) (oe : Obj) (cls : Value) (d : Option Addr) (pn : List (Addr × Obj)) (c : Exn), Zc cls d oe → (∃ vs, oe.data = .fields vs) → PSs (X.suite a ((a, oe) :: pn)) (b₀ :: suite) (sM (G.suite i a cls d c) W0 (ms c))) :
    PS X (.Try body [.ExceptHandler (some (.Name x np)) (some n) (b₀ :: suite) pos'] [] [] pos) (sM G W (mTryAs is i mb ms)) := by
  refine ps_imp (ps_try_as (tb := fun W' => sM G W' mb) (ts := fun a cls d D σ H => ∃ c, sM (G.suite i a cls d c) W0 (ms c) D σ H) hs hf C.nd hi hln hc C.tk
    (fun W' pn xe tk ow => hb W' pn xe ⟨C.hK, C.hr, C.calm, ow, tk, C.nd⟩) (fun a oe cls d pn hz hf => ps_ex fun c => hsu a oe cls d pn c hz hf)) fun D σ H h => ?_
  obtain ⟨β, ρ, S, R, Vr, h⟩ := h
  refine ⟨β, ρ, S, R, Vr, ?_⟩
  unfold mTryAs at h
  cases hm : mb ρ S with
  | stuck => rw [hm] at h; exact h.elim
  | ok p S1 => rw [hm] at h; exact h
  | ex c ρ1 S1 =>
    rw [hm] at h
    simp only at h
    intro β1 H1 σ1 cls d e1 R1 V1 x1
    obtain ⟨Ca, dd, ys, hcl, rfl, rfl, hxd, hps⟩ := id x1
    split at h
    · rename_i his1
      split at h
      case isFalse => exact h.elim
      refine ⟨true, his _ _ _ hcl his1, fun _ a hna => ⟨c, β1, ρ1.set i none, S1, R1, ?_, ?_⟩, (fun z => Bool.noConfusion z)⟩
      · have V2 := V1.clear (x := some (L2.V.ref a)) hfx
        refine ⟨V2.len, V2.slot, fun p hp => ?_, fun t ht => ?_⟩
        · rcases List.mem_cons.mp hp with rfl | hp
          · exact List.getElem?_set_self (by rw [V1.len]; assumption)
          · exact V2.fx p hp
        · rcases List.mem_cons.mp ht with rfl | ht
          · exact x1
          · exact V2.xx t ht
      · cases hms : ms c (ρ1.set i none) S1 with
        | stuck => rw [hms] at h; exact h.elim
        | ex c2 r2 S2 => rw [hms] at h; exact h.elim
        | ok p S2 =>
          rw [hms] at h
          obtain ⟨f, ρ2⟩ := p
          intro β2 H2 e2 R2
          have h2 := h β2 H2 (e1.trans e2) R2
          cases f with
          | nx => exact fun σ' V' => h2 _ (V'.out.clear hfx)
          | bk => exact fun σ' V' => h2 _ (V'.out.clear hfx)
          | ct => exact fun σ' V' => h2 _ (V'.out.clear hfx)
          | rt d => exact h2
    · rename_i his1
      exact ⟨false, his _ _ _ hcl his1, (fun z => Bool.noConfusion z), fun _ => h β1 H1 σ1 _ _ e1 R1 V1 x1⟩
    · exact h.elim
/-! ### in the suite: n.f, isinstance(n, C) -/
def mXf (nm : Str) (fld : Str) (c : Exn) : ME := fun _ S => if c.cls = nm then (match c.fs.lookup fld with
  | some d => .ok d S
  | none => .stuck) else .stuck
theorem lookup_rps {K : PySem.W.Frag} {β : List Addr} {H : Hp} {ys : List (Str × L2.V)} {fs : List (Str × D)} (m : RPs K β H ys fs) {f : Str} {d : D} (h : fs.lookup f = some d) : ∃ v, ys.lookup f = some v ∧ RD K β H v d := by
  unfold RPs at m
  induction m with
  | nil => cases h
  | @cons p q ps qs a b ih =>
    obtain ⟨f1, v1⟩ := p
    obtain ⟨f2, d2⟩ := q
    obtain ⟨e1, e2⟩ := a
    simp only at e1 e2
    subst e1
    simp only [List.lookup] at h ⊢
    split at h
    · cases h
      exact ⟨_, rfl, e2⟩
    · exact ih h
theorem ce_xf {a : Addr} {oe : Obj} {cls : Value} {d : Option Addr} {pn : List (Addr × Obj)} {c : Exn} {i : Nat} {n fld nm : Str} {Ca : Addr} {W' : WX} {p4 : Pos} (hK : X.K = G.K) (hcl : G.cl nm = some Ca) (T : XfC X.K Ca) (hno : PySem.W.findIn X.K (.ref Ca) fld = some none) (hz : Zc cls d oe) (hf : ∃ vs, oe.data = .fields vs)
    (hi : X.N[i]? = some n) (hv : Vis X.env.scope n := by first | exact Or.inl rfl | exact Or.inr (Or.inl rfl) | exact Or.inr (Or.inr rfl)) (hd : (n == ("__debug__" : Str)) = false := by decide) (hcd : (n == ("__classdict__" : Str)) = false := by decide)
    (hb : attributeBase (.Name n p4) fld X.env (eval (.Name n p4) X.env) = eval (.Name n p4) X.env := by rfl) :
    PE (X.suite a ((a, oe) :: pn)) (.Attribute (.Name n p4) fld pos) (tM (G.suite i a cls d c) W' (mXf nm fld c)) := by
  refine pe_imp (pe_xf T hno hz hf (pe_var (X := X.suite a ((a, oe) :: pn)) (i := i) hi hv hd hcd) hb) fun σ H Q h => ?_
  obtain ⟨β, ρ, S, R, Vr, h⟩ := h
  have f1 := Vr.fx (i, .ref a) List.mem_cons_self
  obtain ⟨Cb, dd, ys, h1, rfl, rfl, h4, h5⟩ := Vr.xx (cls, d, c) List.mem_cons_self
  unfold mXf at h
  split at h
  · rename_i hn
    split at h
    · rename_i z hl
      have h1 : G.cl c.cls = some Cb := h1
      rw [hn, hcl] at h1
      cases h1
      obtain ⟨v, l, rv⟩ := lookup_rps h5 hl
      exact ⟨_, f1, rfl, rfl, dd, ys, v, rfl, h4, l, h β H Ex.refl R v rv⟩
    · exact h.elim
  · exact h.elim
def mIsE (is : Is) (c : Exn) : ME := fun _ S => match is c.cls with
  | some b => .ok (.bl b) S
  | none => .stuck
/-- what isinstance asks of an error's class (d: its dict's object, any) -/
structure ExcK (K : PySem.W.Frag) (D : Addr) : Prop where
  cl : (PySem.W.clsIn K D).isSome = true
  ga : PySem.W.findIn K (.ref D) "__getattribute__" = some (some (.builtin "BaseException.__getattribute__"))
  gt : PySem.W.findIn K (.ref D) "__getattr__" = some none
  sb : PySem.W.subIn K (.ref D) (.type "BaseException") = some true
  ca : PySem.W.findIn K (.ref D) "__class__" = some (some (.builtin "object.__class__"))
  sp : PySem.W.specialIn K (.builtin "object.__class__") "__get__" = some (some (.builtin "getset_descriptor.__get__"))
  tk : PySem.W.takesIn K (.builtin "object.__class__") = some true
  ob : PySem.W.mroIn K D (.type "object") = some true
def rIsX (K : PySem.W.Frag) (D a : Addr) (d : Option Addr) : List L2.V → Hp → VK → Prop := fun xs H Q => ∃ (c : L2.V) (cv : Value) (b : Bool) (dd : Addr) (fs : List (Str × L2.V)), xs = [.ref a, c] ∧ (∀ u, RelV c u → u = cv) ∧ d = some dd ∧ H dd = some (.xd fs) ∧ PySem.W.kitOne K (.ref D) cv = some b ∧ Q (.bl b) H
theorem call_isX {a D : Addr} {d : Option Addr} {oe : Obj} {pn : List (Addr × Obj)} (C : ExcK X.K D) (hz : Zc (.ref D) d oe) (hf : ∃ vs, oe.data = .fields vs) : CallR (X.suite a ((a, oe) :: pn)) (.builtin "isinstance") (rIsX X.K D a d) := by
  intro pins s σ H xs us Q I r h
  obtain ⟨c, cv, b, dd, fs, rfl, hcv, rfl, ea, e, q⟩ := h
  obtain ⟨u1, u2, rfl, r1, r2⟩ := vals2 r
  cases r1
  have := hcv _ r2
  subst this
  obtain ⟨hget, _⟩ := I.pin (a, oe) (List.mem_append_left _ List.mem_cons_self)
  obtain ⟨vs, hv⟩ := hf
  obtain ⟨mA, hns, _⟩ := (show ObjOk X.prog X.w H s.heap dd (.xd fs) from I.hok dd _ ea)
  obtain ⟨od, ho, _⟩ := lookIn_ns hns
  have J : PySem.W.InstAt s.heap a oe D (some od) := ⟨hget, hz.1, by unfold PySem.W.notCls; rw [hv] <;> rfl, by rw [hz.2]; exact ho⟩
  exact PySem.W.kia_one (PySem.W.kitx_exc (od := some od) C.cl C.ga C.gt C.sb C.ca C.sp C.tk C.ob) I.kIn J e (fun z => nomatch z) fun tk => ⟨.bl b, H, I.kept (t' := tk) fun _ _ z => z, rfl, q⟩
theorem pa_two {Y : Cx} {a b : Expr} {ta tb : TE} (ha : PE Y a ta) (hb : PE Y b tb) (h1 : starEach [a, b] Y.env = (false, eval a Y.env) :: starEach [b] Y.env) (h2 : starEach [b] Y.env = (false, eval b Y.env) :: starEach [] Y.env) : PA Y [a, b] (tCons ta (tCons tb tNil)) := pa_cons ha (pa_cons hb pa_nil h2) h1
theorem ce_isE {is : Is} {a : Addr} {oe : Obj} {cls : Value} {d : Option Addr} {pn : List (Addr × Obj)} {c : Exn} {i : Nat} {n : Str} {b : Expr} {cV : L2.V} {cv : Value} {W' : WX} {p4 : Pos} (hK : X.K = G.K) (hg : Gl X "isinstance") (hm : X.mg "isinstance" = none) (hz : Zc cls d oe) (hf : ∃ vs, oe.data = .fields vs)
    (hb : PE (X.suite a ((a, oe) :: pn)) b (tC cV)) (hcv : ∀ u, RelV cV u → u = cv) (his : ∀ (nm : Str) (Ca : Addr) (x : Bool), G.cl nm = some Ca → is nm = some x → ExcK X.K Ca ∧ PySem.W.kitOne X.K (.ref Ca) cv = some x)
    (hi : X.N[i]? = some n) (hv : Vis X.env.scope n := by first | exact Or.inl rfl | exact Or.inr (Or.inl rfl) | exact Or.inr (Or.inr rfl)) (hd : (n == ("__debug__" : Str)) = false := by decide) (hcd : (n == ("__classdict__" : Str)) = false := by decide)
    (he : starEach [.Name n p4, b] X.env = (false, eval (.Name n p4) X.env) :: starEach [b] X.env := by rfl) (he2 : starEach [b] X.env = (false, eval b X.env) :: starEach [] X.env := by rfl) (hpl : (backTo pos (starEach [b] X.env)).any (·.1) = false := by rfl) :
    PE (X.suite a ((a, oe) :: pn)) (.Call (.Name "isinstance" p2) [.Name n p4, b] [] pos) (tM (G.suite i a cls d c) W' (mIsE is c)) := by
  refine ⟨fun pins s σ H Q I h => ?_⟩
  obtain ⟨β, ρ, S, R, Vr, h⟩ := h
  have f1 := Vr.fx (i, .ref a) List.mem_cons_self
  obtain ⟨Cb, dd, ys, h1, rfl, rfl, h4, h5⟩ := Vr.xx (cls, d, c) List.mem_cons_self
  unfold mIsE at h
  split at h
  · rename_i x hx
    obtain ⟨EK, hk⟩ := his c.cls Cb x h1 hx
    have rule := pe_callB (X := X.suite a ((a, oe) :: pn)) (p := p2) (call_isX EK hz hf) hg hm PyProof.Rows.boot_isinstance (pa_two (pe_var (X := X.suite a ((a, oe) :: pn)) (i := i) (pos := p4) hi hv hd hcd) hb he he2) (by decide) (by decide) he hpl
    exact rule.run pins s σ H Q I ⟨_, f1, cV, cv, x, dd, ys, rfl, hcv, rfl, h4, hk, h β H Ex.refl R _ (.bl _)⟩
  · exact h.elim
end
end Mi
namespace Mi
open PySem PySem.Spec PyProof.Rows L2
/-! ### small words for printed walks -/
theorem nofx0 {K : PySem.W.Frag} {cl : Str → Option Addr} {i : Nat} : noFx { K := K, cl := cl } i := fun p hp => by simp at hp
theorem nofxs {K : PySem.W.Frag} {cl : Str → Option Addr} {is : List Nat} : ∀ i ∈ is, noFx { K := K, cl := cl } i := fun _ _ => nofx0
theorem nofxS {G : Gs} {j : Nat} {a : Addr} {cls : Value} {d : Option Addr} {c : Exn} {i : Nat} (h : j ≠ i) (hn : noFx G i) : noFx (G.suite j a cls d c) i := fun p hp => by
  rcases List.mem_cons.mp hp with rfl | hp
  · exact h
  · exact hn p hp
theorem dfl0 {K : PySem.W.Frag} : Dfl K [] [] := fun _ _ => .nil
section
variable {X : Cx} {G : Gs} {W : WX} {pos : Pos}
theorem ce_gint {x : Str} {i : Int} (h : ∃ u, X.mg x = some u ∧ RelV (.int i) u) (hg : Gl X x := by rfl) (hd : (x == ("__debug__" : Str)) = false := by decide) : PE X (.Name x pos) (tM G W (mC (.int i))) := by
  obtain ⟨u, h1, h2⟩ := h
  exact ce_glob h1 h2 (fun _ _ => .int _) hg hd
theorem ce_gstr {x y : Str} (h : ∃ u, X.mg x = some u ∧ RelV (.str y) u) (hg : Gl X x := by rfl) (hd : (x == ("__debug__" : Str)) = false := by decide) : PE X (.Name x pos) (tM G W (mC (.str y))) := by
  obtain ⟨u, h1, h2⟩ := h
  exact ce_glob h1 h2 (fun _ _ => .str _) hg hd
end
end Mi
namespace Mi
open PySem PySem.Spec PyProof.Rows L2
/-! ### facts of the top, put together -/
section
variable {K : PySem.W.Frag} {C B : Addr}
theorem oex_mk {nm q : Str} {N : Addr} {bs bm : List Value} {sn : List Str} {sub : List Value} {ab : Bool} {col : Option Bool} {dd : Option Addr} {k0 k1 k2 k3 k5 : Option Value}
    (l : K.lookup C = some (excClassObj nm q C N bs bm true sn sub ab col dd k0 k1 k2 k3 k5 "ValueError.__new__")) (r : PySem.HandSPX.refsVE bm = true) (sa : PySem.W.findIn K (.ref C) "__setattr__" = some (some (.builtin "object.__setattr__")))
    (ex : PySem.W.subIn K (.ref C) (.type "BaseException") = some true) (ty : PySem.W.typeIn K (.ref C) = some (.type "type")) (kp : PySem.W.keepIn K (.ref C) = true) : OexC K C :=
  ⟨⟨_, _, _, _, _, _, _, _, _, _, _, _, _, _, _, l, r⟩, sa, ex, ty, kp⟩
theorem ek_mk (hd : PySem.W.hasDictIn K C = true) (ga : PySem.W.findIn K (.ref C) "__getattribute__" = some (some (.builtin "BaseException.__getattribute__"))) (gt : PySem.W.findIn K (.ref C) "__getattr__" = some none) (sb : PySem.W.subIn K (.ref C) (.type "BaseException") = some true)
    (ca : PySem.W.findIn K (.ref C) "__class__" = some (some (.builtin "object.__class__"))) (sp : PySem.W.specialIn K (.builtin "object.__class__") "__get__" = some (some (.builtin "getset_descriptor.__get__"))) (tk : PySem.W.takesIn K (.builtin "object.__class__") = some true)
    (ob : PySem.W.mroIn K C (.type "object") = some true) : ExcK K C ∧ XfC K C := by
  obtain ⟨cd, hc, _⟩ := PySem.W.any_some hd
  exact ⟨⟨by rw [hc]; rfl, ga, gt, sb, ca, sp, tk, ob⟩, ⟨ga, gt, sb, hd⟩⟩
theorem ct_mk {b : Bool} (h1 : PySem.W.subIn K (.ref C) (.type "BaseException") = some true) (hd : PySem.W.hasDictIn K C = true) (ht : PySem.W.typeIn K (.ref C) = some (.type "type")) (h4 : PySem.W.subIn K (.ref B) (.ref C) = some b) : PySem.W.exmOne K (.ref B) (.ref C) = some b := PySem.W.exm_ref h1 hd ht h4
theorem ki_mk {b : Bool} (hd : PySem.W.hasDictIn K C = true) (ht : PySem.W.typeIn K (.ref C) = some (.type "type")) (h4 : PySem.W.subIn K (.ref B) (.ref C) = some b) (hs : B = C → b = true) : PySem.W.kitOne K (.ref B) (.ref C) = some b := by
  obtain ⟨cd, hc, _⟩ := PySem.W.any_some hd
  unfold PySem.W.kitOne
  split
  · rename_i h
    have : B = C := by
      have := eq_of_beq h
      exact Value.ref.inj this
    rw [hs this]
  · show (if _ then _ else _) = _
    rw [hc, ht]
    exact h4
theorem kt_mk {b : Bool} {T : String} (hm : PySem.W.kitMeta T = true) (h4 : PySem.W.subIn K (.ref B) (.type T) = some b) : PySem.W.kitOne K (.ref B) (.type T) = some b := by
  unfold PySem.W.kitOne
  have : (Value.ref B == Value.type T) = false := rfl
  rw [if_neg (by rw [this]; decide)]
  show (if _ then _ else _) = _
  rw [if_pos hm]
  exact h4
theorem sup_mk {P : Program} {mg : Str → Option Value} {st : Stmt} {qual : Str} {f cda cc : Addr} {oc : Value} {od an : Option Addr} {kV doc pm ct : Value} {osl : Array (Option Value)} {ccl cll : Value} {cdd cld : Option Addr} {vs : Array Value} {ccs csl : Array (Option Value)} {file : Str} {tf : Tok}
    (l : K.lookup f = some ⟨oc, od, .func (PySem.W.fnX "__init__" qual (defArgs st) (defBody st) (defScope st) [("__class__", cc)] .none kV doc pm an (.ref cda) ct), osl⟩) (c : PySem.W.codeIn K (.ref cda) qual = true)
    (l2 : K.lookup cda = some ⟨ccl, cdd, .fields vs, ccs⟩) (hv : vs[2]? = some (.str file tf)) (hf : ((P.main.file : Str) == file) = true) (l3 : K.lookup cc = some ⟨cll, cld, .cell (some (.ref C)), csl⟩)
    (top : (P.main.scope.names.lookup ("super" : Str)).isSome = false) (sup : mg "super" = none) (opq : PySem.W.nsIn K PySem.cStatics "thirdparty.any" = some none) (own : PySem.W.mroIn K C (.ref C) = some true) (val : PySem.W.subIn K (.ref C) (.type "ValueError") = some true)
    (ini : PySem.W.ks_superIn K C C "__init__" = some (some (.builtin "ValueError.__init__"))) :
    SupTxt P K mg st qual f (PySem.W.fnX "__init__" qual (defArgs st) (defBody st) (defScope st) [("__class__", cc)] .none kV doc pm an (.ref cda) ct) C :=
  ⟨⟨oc, od, kV, doc, pm, an, cda, cc, ct, osl, rfl, l, c, ⟨ccl, cdd, vs, ccs, file, tf, l2, hv, hf⟩, cll, cld, csl, l3⟩, top, sup, opq, own, val, ini⟩
/-- the law's promise: a list of at most n ints is handed in, True comes out -/
def spLaw (n : Nat) (K : PySem.W.Frag) : Sp := fun vs H Q _ => ∃ (a : Addr) (ns : List Int), vs = [.ref a] ∧ FzL K H a (ns.map L2.V.int) ∧ ns.length ≤ n ∧ ∀ H', Q (.bl true) H'
theorem fz_of {H : Hp} {a : Addr} {xs : List L2.V} (hO : Only H) (h : SqL K H a xs) : FzL K H a xs := by
  rcases h with (h | ⟨o, h⟩) | h
  · rcases hO a with z | ⟨o, ys, z⟩
    · rw [z] at h
      cases h
    · rw [z] at h
      cases h
  · exact .inl ⟨o, h⟩
  · exact .inr fun H' => .inr h
theorem law_sp {n : Nat} {cl : Str → Option Addr} {m : MF} (h : ∀ ns : List Int, ns.length ≤ n → ∃ S, m [.frl (ns.map D.int)] [] = .ok (.bl true) S) (vs : List L2.V) (H : Hp) (Q : VK) (E : XK) (q : spLaw n K vs H Q E) : spM K cl 1 m vs H Q E := by
  obtain ⟨a, ns, rfl, hf, hl, k⟩ := q
  obtain ⟨S, e⟩ := h ns hl
  refine ⟨[], [.frl (ns.map D.int)], [], ⟨rfl, fun m n a h => by simp at h, fun n a o h => by simp at h⟩, .cons (.frl hf (RDs.ints ns)) .nil, rfl, ?_⟩
  rw [e]
  intro β' H' e' R' v rv
  cases rv
  exact k H'
theorem law_walk {l : PySem.W.OpenLaw} {q : Program} {loose : List Str} {XP : (Str → Option Value) → Heap → Prop} {YP : World → Heap → Prop} {d : DefRec} {K : Params → PySem.W.Frag} {k : Nat} {x : Str} (hn : l.most = some 63) (hdf : d.params.defaults = []) (hr : Room k callerA)
    (hY : ∀ (w : World) (h : Heap), YP w h → (K w.params).In h)
    (F : ∀ (w : World) (mg : Str → Option Value) (fa : Addr) (h : Heap), (K w.params).In h → h.Ns mainGlobals mg → mg d.name = some (.ref fa) →
      ∃ fd : FuncData, (∀ (s : Shared) (u : Value), BindsTo s fd ⟨[u], []⟩ [(x, u)]) ∧ ∀ base : Heap, (K w.params).In base → base.Ns mainGlobals mg → FnOk l.prog w (K w.params) mg base (L2.CX l.prog w) k fa fd [x] (spLaw 63 (K w.params))) :
    PySem.W.WalkO q loose XP YP l.row.toRowW d [] (fun f vs => PySem.call f vs) :=
  L2.walk_of (n := 63) (k := k) (x := x) (CX := fun w => L2.CX l.prog w) (sp := fun w => spLaw 63 (K w.params)) hn (by decide) hdf hr hY F (fun w H a ns hl hO hS => ⟨a, ns, rfl, fz_of hO hS, hl, fun _ => rfl⟩) fun w H s e s' z => by
    obtain ⟨_, _, _, _, _, _, _, _, _, _, _, _, z⟩ := z
    exact z
end
end Mi
namespace Mi
open PySem PySem.Spec PyProof.Rows L2
/-! ### instances of the program's own classes -/
/-- fields of an instance, one put anew -/
def putA (f : Str) (d : D) : List (Str × D) → List (Str × D)
  | [] => [(f, d)]
  | (g, e) :: r => if g = f then (g, d) :: r else (g, e) :: putA f d r
theorem putA_rel {K : PySem.W.Frag} {β : List Addr} {H : Hp} {f : Str} {v : L2.V} {d : D} (r : RD K β H v d) : ∀ {ys : List (Str × L2.V)} {fs : List (Str × D)}, RPs K β H ys fs → RPs K β H (putF f v ys) (putA f d fs) := by
  intro ys fs m
  unfold RPs at m ⊢
  induction m with
  | nil => exact .cons ⟨rfl, r⟩ .nil
  | @cons p q ps qs a b ih =>
    obtain ⟨g, y⟩ := p
    obtain ⟨g', e⟩ := q
    obtain ⟨e1, e2⟩ := a
    simp only at e1 e2
    subst e1
    by_cases hg : g = f
    · have h1 : putF f v ((g, y) :: ps) = (g, v) :: ps := by unfold putF; rw [if_pos hg]
      have h2 : putA f d ((g, e) :: qs) = (g, d) :: qs := by unfold putA; rw [if_pos hg]
      rw [h1, h2]
      exact .cons ⟨rfl, r⟩ b
    · have h1 : putF f v ((g, y) :: ps) = (g, y) :: putF f v ps := by conv => lhs; unfold putF; rw [if_neg hg]
      have h2 : putA f d ((g, e) :: qs) = (g, e) :: putA f d qs := by conv => lhs; unfold putA; rw [if_neg hg]
      rw [h1, h2]
      exact .cons ⟨rfl, e2⟩ ih
/-- o.f: the classes that ok lets have it -/
def fldD (ok : Str → Bool) (f : Str) (d : D) (S : So) : Rs D := match d with
  | .ref n => match S[n]? with
    | some (.ins C fs) => if ok C = true then (match fs.lookup f with
      | some v => .ok v S
      | none => .stuck) else .stuck
    | _ => .stuck
  | _ => .stuck
def mFld (ok : Str → Bool) (f : Str) (m : ME) : ME := m1 (fldD ok f) m
def FOk (K : PySem.W.Frag) (cl : Str → Option Addr) (ok : Str → Bool) (f : Str) : Prop := ∀ (C : Str) (Ca : Addr), cl C = some Ca → ok C = true → Cls K Ca ∧ NoAttr K Ca f
section
variable {X : Cx} {G : Gs} {W : WX} {k : Nat} {o e : Expr} {es : List Expr} {m mo mv : ME} {mr : MA} {pos pos' p2 apos : Pos} {f : Str} {ok : Str → Bool}
theorem ce_fld (hK : X.K = G.K) (hf : FOk G.K G.cl ok f) (ho : PE X o (tM G W mo)) (hb : attributeBase o f X.env (eval o X.env) = eval o X.env := by rfl) : PE X (.Attribute o f pos) (tM G W (mFld ok f mo)) := by
  refine pe_imp (pe_fld ho hb) fun σ H Q h => ?_
  obtain ⟨β, ρ, S, R, Vr, h⟩ := h
  refine ⟨β, ρ, S, R, Vr, h.bind.imp fun d S1 β1 H1 e1 R1 h1 x rx => ?_⟩
  unfold fldD at h1
  split at h1
  · rename_i n
    cases rx with
    | ref hn =>
      split at h1
      · rename_i C fs hs
        obtain ⟨Ca, dx, ys, hc, q1, q2⟩ := R1.get hs hn
        split at h1
        · rename_i hok
          split at h1
          · rename_i z hz
            obtain ⟨v, hv, rv⟩ := lookup_rps q2 hz
            obtain ⟨c1, c2⟩ := hf C Ca hc hok
            exact ⟨_, Ca, dx, ys, v, rfl, q1, by rw [hK]; exact c1, by rw [hK]; exact c2, hv, h1 β1 H1 Ex.refl R1 v rv⟩
          · exact h1.elim
        · exact h1.elim
      · exact h1.elim
  · exact h1.elim
/-- o.f = e -/
def fstD (ok : Str → Bool) (f : Str) (d z : D) (S : So) : Rs Unit := match d with
  | .ref n => match S[n]? with
    | some (.ins C fs) => if ok C = true ∧ fs.length < 1000 then .ok () (S.set n (.ins C (putA f z fs))) else .stuck
    | _ => .stuck
  | _ => .stuck
def mFst (ok : Str → Bool) (f : Str) (mo mv : ME) : MS := fun ρ S => (mv ρ S).bind fun z S1 => (mo ρ S1).bind fun d S2 => (fstD ok f d z S2).bind fun _ S3 => .ok (.nx, ρ) S3
theorem cs_fld (hK : X.K = G.K) (hf : FOk G.K G.cl ok f) (ho : PE X o (tM G W mo)) (hv : PE X e (tM G W mv)) (hs : swapsWith e (some (.Attribute o f pos')) pos.line X.env = pure false := by rfl) : PS X (.Assign [.Attribute o f pos'] e pos) (sM G W (mFst ok f mo mv)) := by
  refine ps_imp (ps_fld ho hv hs) fun E σ H h => ?_
  obtain ⟨β, ρ, S, R, Vr, h⟩ := h
  refine ⟨β, ρ, S, R, Vr, h.bind.imp fun z S1 β1 H1 e1 R1 h1 y ry => ?_⟩
  refine ⟨β1, ρ, S1, R1, Vr.mono e1.toEw, h1.bind.imp fun d S2 β2 H2 e2 R2 h2 x rx => ?_⟩
  unfold fstD at h2
  split at h2
  · rename_i n
    cases rx with
    | ref hn =>
      split at h2
      · rename_i C fs hs
        obtain ⟨Ca, dx, ys, hc, q1, q2⟩ := R2.get hs hn
        split at h2
        · rename_i hok
          obtain ⟨c1, c2⟩ := hf C Ca hc hok.1
          refine ⟨_, Ca, dx, ys, rfl, q1, by rw [hK]; exact c1, by rw [hK]; exact c2, by rw [q2.length]; exact hok.2, ?_⟩
          obtain ⟨R', e'⟩ := R2.upd (ho := .ins Ca dx (putF f y ys)) (o' := .ins C (putA f z fs)) hn (fun o u z => by rw [q1] at z; cases z) fun e' => ⟨Ca, dx, _, hc, upd_same, (putA_rel (ry.mono e2.toEw) q2).mono e'.toEw⟩
          exact h2 _ _ e' R' σ (Vr.mono (e1.trans (e2.trans e')).toEw)
        · exact h2.elim
      · exact h2.elim
  · exact h2.elim
/-! ### o.m(..) of an own class -/
def mMethP (C m : Str) (F : MF) (n : Nat) (dds : List D) (mo : ME) (ma : MA) : ME := fun ρ S => (mo ρ S).bind fun d S1 => match d with
  | .ref j => match S1[j]? with
    | some (.ins C' fs) => if C' = C ∧ fs.lookup m = none then (ma ρ S1).bind fun ds S2 => if (d :: ds ++ dds).length = n then (match F (d :: ds ++ dds) S2 with
      | .ok d S2 => .ok d S2
      | .ex c _ S2 => .ex c ρ S2
      | .stuck => .stuck) else .stuck else .stuck
    | _ => .stuck
  | _ => .stuck
theorem lookup_none {K : PySem.W.Frag} {β : List Addr} {H : Hp} {ys : List (Str × L2.V)} {fs : List (Str × D)} (q : RPs K β H ys fs) {f : Str} (h : fs.lookup f = none) : ys.lookup f = none := by
  unfold RPs at q
  induction q with
  | nil => rfl
  | @cons p q ps qs a b ih =>
    obtain ⟨g, y⟩ := p
    obtain ⟨g', e⟩ := q
    obtain ⟨e1, e2⟩ := a
    simp only at e1 e2
    subst e1
    simp only [List.lookup] at h ⊢
    split at h
    · cases h
    · exact ih h
theorem ce_methP {C m : Str} {Ca fa : Addr} {fd : FuncData} {ps : List Str} {n j : Nat} {F : MF} {dvs : List L2.V} {dvals : List Value} {dds : List D} {pl : Sem Bool} (Fn : FnOk X.prog X.w X.K X.mg X.base (L2.CX X.prog X.w) j fa fd ps (spM G.K G.cl n F)) (Cc : Cn X G W k) (hj : j ≤ k) (hcl : G.cl C = some Ca) (c : Cls X.K Ca) (hm : Meth X.K Ca m fa)
    (hb : Binds X.K fd ps dvals) (hd : Vals dvs dvals) (hdd : Dfl G.K dvs dds) (ho : PE X o (tM G W mo)) (ha : PA X (e :: es) (tA G W mr)) (hst : starEach (e :: es) X.env = (false, eval e X.env) :: starEach es X.env := by rfl) (hpl : (backTo pos (starEach es X.env)).any (·.1) = false := by rfl)
    (ht : eval (.Call (.Attribute o m apos) (e :: es) [] pos) X.env = (do
      let ov ← eval o X.env
      standAt apos.atName
      let (g, rest) ← holding [ov] (getMethod ov m pl)
      callWith pos g rest (backTo pos (starEach (e :: es) X.env)) (backToKw pos (keywordEach [] X.env))) := by rfl) : PE X (.Call (.Attribute o m apos) (e :: es) [] pos) (tM G W (mMethP C m F n dds mo mr)) := by
  refine ⟨fun pins s σ H Q I h => ?_⟩
  obtain ⟨β, ρ, S, R, Vr, h⟩ := h
  have ho' := ho.run pins s σ H (fun x H1 => ∃ (a dx : Addr) (fs : List (Str × L2.V)), x = .ref a ∧ H1 a = some (.ins Ca dx fs) ∧ fs.lookup m = none ∧ tA G W mr σ H1 fun vs H2 => spM G.K G.cl n F ((.ref a :: vs) ++ dvs) H2 Q (WE W σ)) I ⟨β, ρ, S, R, Vr, h.bind.imp fun d S1 β1 H1 e1 R1 h1 x rx => ?_⟩
  · refine PySem.W.methodCall_KW (pl := pl) (thn ho' fun u s1 hu => ?_) ht
    obtain ⟨x, H1, I1, rx, a, dx, fs, rfl, ea, l, q⟩ := hu
    cases (show u = Value.ref a from rx)
    refine getmeth_ok I1 ea c hm l (PySem.W.callWith_K (first := [.ref a]) (h₀ := X.base) I.ok.mod.kin hm.kp ?_ hst hpl)
    refine thn (ha.run pos pins s1 σ H1 _ I1 q) fun us s2 hq => ?_
    obtain ⟨vs, H2, I2, r, q2⟩ := hq
    exact ⟨I2.kIn, run_fnSD (us := .ref a :: us) (vs := .ref a :: vs) Fn (Cc.hr.mono hj) hb hd (Cc.pass σ) I2 (.cons rfl r) q2⟩
  · split at h1
    · rename_i i
      cases rx with
      | ref hn =>
        split at h1
        · rename_i C' fs hs
          obtain ⟨Cb, dx, ys, hc, q1, q2⟩ := R1.get hs hn
          split at h1
          · rename_i hcc
            have hce : Cb = Ca := by
              rw [hcc.1, hcl] at hc
              exact (Option.some.inj hc).symm
            subst hce
            refine ⟨_, dx, ys, rfl, q1, lookup_none q2 hcc.2, β1, ρ, S1, R1, Vr.mono e1.toEw, h1.bind.imp fun ds S2 β2 H2 e2 R2 h2 xs rs => ?_⟩
            exact sp_call hdd R2 (Vr.mono (e1.trans e2).toEw) (.cons (.ref (e2.pre _ _ hn)) rs) h2
          · exact h1.elim
        · exact h1.elim
    · exact h1.elim
theorem ce_methP0 {C m : Str} {Ca fa : Addr} {fd : FuncData} {ps : List Str} {n j : Nat} {F : MF} {dvs : List L2.V} {dvals : List Value} {dds : List D} {pl : Sem Bool} (Fn : FnOk X.prog X.w X.K X.mg X.base (L2.CX X.prog X.w) j fa fd ps (spM G.K G.cl n F)) (Cc : Cn X G W k) (hj : j ≤ k) (hcl : G.cl C = some Ca) (c : Cls X.K Ca) (hm : Meth X.K Ca m fa)
    (hb : Binds X.K fd ps dvals) (hd : Vals dvs dvals) (hdd : Dfl G.K dvs dds) (ho : PE X o (tM G W mo))
    (ht : eval (.Call (.Attribute o m apos) [] [] pos) X.env = (do
      let ov ← eval o X.env
      standAt apos.atName
      let (g, rest) ← holding [ov] (getMethod ov m pl)
      callWith pos g rest (backTo pos (starEach [] X.env)) (backToKw pos (keywordEach [] X.env))) := by rfl) : PE X (.Call (.Attribute o m apos) [] [] pos) (tM G W (mMethP C m F n dds mo mNilA)) := by
  refine ⟨fun pins s σ H Q I h => ?_⟩
  obtain ⟨β, ρ, S, R, Vr, h⟩ := h
  have ho' := ho.run pins s σ H (fun x H1 => ∃ (a dx : Addr) (fs : List (Str × L2.V)), x = .ref a ∧ H1 a = some (.ins Ca dx fs) ∧ fs.lookup m = none ∧ spM G.K G.cl n F ([.ref a] ++ dvs) H1 Q (WE W σ)) I ⟨β, ρ, S, R, Vr, h.bind.imp fun d S1 β1 H1 e1 R1 h1 x rx => ?_⟩
  · refine PySem.W.methodCall_KW (pl := pl) (thn ho' fun u s1 hu => ?_) ht
    obtain ⟨x, H1, I1, rx, a, dx, fs, rfl, ea, l, q⟩ := hu
    cases (show u = Value.ref a from rx)
    refine getmeth_ok I1 ea c hm l (PySem.W.callWith_K0 (first := [.ref a]) I1.kIn hm.kp ?_)
    exact run_fnSD (us := [.ref a]) (vs := [.ref a]) Fn (Cc.hr.mono hj) hb hd (Cc.pass σ) I1 (.cons rfl .nil) q
  · split at h1
    · rename_i i
      cases rx with
      | ref hn =>
        split at h1
        · rename_i C' fs hs
          obtain ⟨Cb, dx, ys, hc, q1, q2⟩ := R1.get hs hn
          split at h1
          · rename_i hcc
            have hce : Cb = Ca := by
              rw [hcc.1, hcl] at hc
              exact (Option.some.inj hc).symm
            subst hce
            refine ⟨_, dx, ys, rfl, q1, lookup_none q2 hcc.2, ?_⟩
            exact sp_call hdd R1 (Vr.mono e1.toEw) (ds := [.ref i]) (.cons (.ref hn) .nil) h1
          · exact h1.elim
        · exact h1.elim
    · exact h1.elim
end
end Mi
namespace Mi
open PySem PySem.Spec PyProof.Rows L2
/-! ### C(..): a new instance, then its __init__ -/
def mMake (C : Str) (F : MF) (n : Nat) (dds : List D) (ma : MA) : ME := fun ρ S => (ma ρ S).bind fun ds S1 => if (.ref S1.length :: ds ++ dds : List D).length = n then (match F (.ref S1.length :: ds ++ dds) (S1 ++ [.ins C []]) with
  | .ok .non S2 => .ok (.ref S1.length) S2
  | .ok _ _ => .stuck
  | .ex c _ S2 => .ex c ρ S2
  | .stuck => .stuck) else .stuck
section
variable {X : Cx} {G : Gs} {W : WX} {k : Nat} {e : Expr} {es : List Expr} {mr : MA} {pos p2 : Pos} {C x : Str} {Ca fa : Addr} {fd : FuncData} {ps : List Str} {n j : Nat} {F : MF} {dvs : List L2.V} {dvals : List Value} {dds : List D}
/-- an instance made where the wish about errors hangs on the slots -/
theorem makeS {pins : List (Addr × Obj)} {σ : Sl} {H : Hp} {s : Shared} {Q : VK} {us : List Value} {vs : List L2.V} {sp : Sp} {E : XK} (M : Mk X.K Ca fa) (Fn : FnOk X.prog X.w X.K X.mg X.base (L2.CX X.prog X.w) j fa fd ps sp) (hr : Room (j + 1) X.A) (hb : Binds X.K fd ps dvals) (hd : Vals dvs dvals)
    (hx : PassesAt (L2.CX X.prog X.w) X σ E) (I : Inv X pins σ H s) (r : Vals vs us)
    (h : ∀ y dx, H y = none → H dx = none → dx ≠ y → sp (.ref y :: (vs ++ dvs)) (upd (upd H dx (.own y)) y (.ins Ca dx [])) (fun v H2 => v = .non ∧ Q (.ref y) H2) E) : wpAny (model X.prog X.w) X.A (call (.ref Ca) us) (EP X pins σ Q) X.xe s := by
  have n0 : H s.heap.objs.size = none := I.hok.fresh (Nat.le_refl _)
  have n1 : H (s.heap.objs.size + 1) = none := I.hok.fresh (Nat.le_succ _)
  have hsp := h _ _ n1 n0 (Nat.ne_of_lt (Nat.lt_succ_self _))
  have J := Inv.made (C := Ca) I
  have rs : Vals (L2.V.ref (s.heap.objs.size + 1) :: (vs ++ dvs)) (Value.ref (s.heap.objs.size + 1) :: (us ++ dvals)) := .cons rfl (r.append hd)
  have hlen : (Value.ref (s.heap.objs.size + 1) :: us ++ dvals).length = ps.length := (rs.length.symm.trans (Fn.len _ _ _ _ hsp))
  refine wpAny_call (make_map (f := fa) I.kIn M.makes M.init (beq_iff_eq.mp M.fn) ?_)
  refine codeAny_mono (Fn.run _ X.stack _ _ ⟨Value.ref (s.heap.objs.size + 1) :: us, []⟩ _ _ _ E (hr.make Ca us []) (J.env0.make Ca us []) (hb _ (Value.ref (s.heap.objs.size + 1) :: us) J.kIn hlen) rs hsp) fun res s' hres => ?_
  cases res with
  | error z => exact hx pins _ _ z s' J hres
  | ok fl =>
    cases fl with
    | ret u =>
      obtain ⟨v, H', J', rv, ev, q'⟩ := J.after hres
      subst ev
      exact ⟨rv, ⟨L2.V.ref (s.heap.objs.size + 1), H', J', rfl, q'⟩⟩
    | next => exact hres.elim
    | brk => exact hres.elim
    | cont => exact hres.elim
theorem sp_make {σ : Sl} {ρ : Ro} {β : List Addr} {S : So} {H : Hp} {vs : List L2.V} {ds : List D} {Q : VK} (hcl : G.cl C = some Ca) (hdd : Dfl G.K dvs dds) (R : Rl G.K G.cl β S H) (Vr : RVs G β H σ ρ) (rs : RDs G.K β H vs ds)
    (h : Gd G W β H (if (.ref S.length :: ds ++ dds : List D).length = n then (match F (.ref S.length :: ds ++ dds) (S ++ [.ins C []]) with
      | .ok .non S2 => .ok (.ref S.length) S2
      | .ok _ _ => .stuck
      | .ex c _ S2 => .ex c ρ S2
      | .stuck => .stuck : Rs D) else .stuck) (kV G Q)) : ∀ y dx, H y = none → H dx = none → dx ≠ y → spM G.K G.cl n F (.ref y :: (vs ++ dvs)) (upd (upd H dx (.own y)) y (.ins Ca dx [])) (fun v H2 => v = .non ∧ Q (.ref y) H2) (WE W σ) := by
  intro y dx hy hdx hne
  split at h
  · rename_i hn
    have e1 : Ex β H β (upd H dx (.own y)) := Ex.fresh hdx
    have R1 : Rl G.K G.cl β S (upd H dx (.own y)) := R.fresh hdx
    have hy1 : (upd H dx (.own y)) y = none := by rw [upd_ne (Ne.symm hne)]; exact hy
    have e2 := Ex.new (β := β) (ho := HO.ins Ca dx []) hy1
    have R2 : Rl G.K G.cl (β ++ [y]) (S ++ [.ins C []]) (upd (upd H dx (.own y)) y (.ins Ca dx [])) := R1.new hy1 ⟨Ca, dx, [], hcl, upd_same, .nil⟩
    have e12 := e1.trans e2
    refine ⟨β ++ [y], .ref S.length :: (ds ++ dds), S ++ [.ins C []], R2, .cons (.ref (last_of R.len)) ((rs.mono e12.toEw).append (hdd _ _)), hn, ?_⟩
    have hF : F (.ref S.length :: (ds ++ dds)) (S ++ [.ins C []]) = F (.ref S.length :: ds ++ dds) (S ++ [.ins C []]) := rfl
    rw [hF]
    cases hm : F (.ref S.length :: ds ++ dds) (S ++ [.ins C []]) with
    | stuck => rw [hm] at h; exact h.elim
    | ok d S2 =>
      rw [hm] at h
      cases d with
      | non =>
        intro β' H' e' R' v rv
        cases rv
        exact ⟨rfl, h β' H' (e12.trans e') R' _ (.ref (e'.pre _ _ (last_of R.len)))⟩
      | _ => exact h.elim
    | ex c ρ' S2 =>
      rw [hm] at h
      exact fun β' H' σ' cls d e' R' V' q => h β' H' σ cls d (e12.trans e') R' (Vr.mono (e12.trans e').toEw) q
  · exact h.elim
theorem ce_make (M : Mk X.K Ca fa) (Fn : FnOk X.prog X.w X.K X.mg X.base (L2.CX X.prog X.w) j fa fd ps (spM G.K G.cl n F)) (Cc : Cn X G W k) (hj : j + 1 ≤ k) (hcl : G.cl C = some Ca) (hg : Gl X x) (hm : X.mg x = some (.ref Ca)) (hb : Binds X.K fd ps dvals) (hd : Vals dvs dvals) (hdd : Dfl G.K dvs dds)
    (ha : PA X (e :: es) (tA G W mr)) (hdb : (x == ("__debug__" : Str)) = false := by decide) (he : starEach (e :: es) X.env = (false, eval e X.env) :: starEach es X.env := by rfl) (hpl : (backTo pos (starEach es X.env)).any (·.1) = false := by rfl) : PE X (.Call (.Name x p2) (e :: es) [] pos) (tM G W (mMake C F n dds mr)) := by
  refine ⟨fun pins s σ H Q I h => wpAny_Call_Name_kw (ld_glob I hg hm ?_ hdb)⟩
  obtain ⟨β, ρ, S, R, Vr, h⟩ := h
  have har := ha.run pos pins s σ H (fun vs H1 => ∀ y dx, H1 y = none → H1 dx = none → dx ≠ y → spM G.K G.cl n F (.ref y :: (vs ++ dvs)) (upd (upd H1 dx (.own y)) y (.ins Ca dx [])) (fun v H2 => v = .non ∧ Q (.ref y) H2) (WE W σ)) I ⟨β, ρ, S, R, Vr, h.bind.imp fun ds S1 β1 H1 e1 R1 h1 vs rs => sp_make hcl hdd R1 (Vr.mono e1.toEw) rs h1⟩
  refine PySem.W.callWith_K (h₀ := X.base) I.ok.mod.kin M.kp (thn har fun us s1 hu => ?_) he hpl
  obtain ⟨vs, H1, I1, r, q⟩ := hu
  exact ⟨I1.kIn, makeS M Fn (Cc.hr.mono hj) hb hd (Cc.pass σ) I1 r q⟩
theorem ce_make0 (M : Mk X.K Ca fa) (Fn : FnOk X.prog X.w X.K X.mg X.base (L2.CX X.prog X.w) j fa fd ps (spM G.K G.cl n F)) (Cc : Cn X G W k) (hj : j + 1 ≤ k) (hcl : G.cl C = some Ca) (hg : Gl X x) (hm : X.mg x = some (.ref Ca)) (hb : Binds X.K fd ps dvals) (hd : Vals dvs dvals) (hdd : Dfl G.K dvs dds)
    (hdb : (x == ("__debug__" : Str)) = false := by decide) : PE X (.Call (.Name x p2) [] [] pos) (tM G W (mMake C F n dds mNilA)) := by
  refine ⟨fun pins s σ H Q I h => wpAny_Call_Name_kw (ld_glob I hg hm ?_ hdb)⟩
  obtain ⟨β, ρ, S, R, Vr, h⟩ := h
  exact PySem.W.callWith_K0 I.kIn M.kp (makeS (us := []) (vs := []) M Fn (Cc.hr.mono hj) hb hd (Cc.pass σ) I .nil (sp_make hcl hdd R Vr (ds := []) .nil h))
end
end Mi
namespace Mi
open PySem PySem.Spec PyProof.Rows L2
/-! ### a dict that is walked: locked for the statement -/
/-- which dict: found ahead of the statement, nothing done -/
abbrev MD := Ro → So → Option Nat
def mLock (md : MD) (s : MS) : MS := fun ρ S => match md ρ S with
  | some n => match S[n]? with
    | some (.dct kvs) => match s ρ (S.set n (.lck kvs)) with
      | .ok p S' => match S'[n]? with
        | some (.lck _) => .ok p (S'.set n (.dct kvs))
        | _ => .stuck
      | .ex c r S' => .ex c r S'
      | .stuck => .stuck
    | _ => .stuck
  | none => .stuck
def mLockE (md : MD) (m : ME) : ME := fun ρ S => match md ρ S with
  | some n => match S[n]? with
    | some (.dct kvs) => match m ρ (S.set n (.lck kvs)) with
      | .ok p S' => match S'[n]? with
        | some (.lck _) => .ok p (S'.set n (.dct kvs))
        | _ => .stuck
      | .ex c r S' => .ex c r S'
      | .stuck => .stuck
    | _ => .stuck
  | none => .stuck
section
variable {X : Cx} {G : Gs} {W : WX} {k : Nat} {e : Expr} {st : Stmt} {m : ME} {s : MS} {tg : Expr} {pos p2 apos cpos : Pos} {K : PySem.W.Frag} {cl : Str → Option Addr}
/-- the lock taken: the relation goes on -/
theorem lock_in {β : List Addr} {S : So} {H : Hp} {n : Nat} {a : Addr} {kvs : List (Key × D)} {ys : List (Key × L2.V)} {od : Obj} (R : Rl K cl β S H) (ha : β[n]? = some a) (e : H a = some (.dK ys)) (m : RPs K β H ys kvs) :
    Rl K cl β (S.set n (.lck kvs)) (upd H a (.frz od (.dK ys))) ∧ Ex β H β (upd H a (.frz od (.dK ys))) :=
  R.upd (ho := .frz od (.dK ys)) (o' := .lck kvs) ha (fun o u z => by rw [e] at z; cases z) fun e' => ⟨ys, od, upd_same, m.mono e'.toEw⟩
/-- .. and given back -/
theorem lock_out {β β' : List Addr} {S S' : So} {H H' : Hp} {n : Nat} {a : Addr} {kvs : List (Key × D)} {ys : List (Key × L2.V)} {od : Obj} (R : Rl K cl β S H) (ha : β[n]? = some a) (e : H a = some (.dK ys)) (m : RPs K β H ys kvs)
    (x : Ex β (upd H a (.frz od (.dK ys))) β' H') (R' : Rl K cl β' S' H') : H' a = some (.frz od (.dK ys)) ∧ Ew β' H' β' (upd H' a (.dK ys)) ∧ Ex β H β' (upd H' a (.dK ys)) ∧ Rl K cl β' (S'.set n (.dct kvs)) (upd H' a (.dK ys)) := by
  have hf : H' a = some (.frz od (.dK ys)) := x.lk a od _ upd_same
  have ha' := x.pre _ _ ha
  have ew : Ew β' H' β' (upd H' a (.dK ys)) := ⟨fun _ _ h => h, fun b o i h => by
    by_cases hb : b = a
    · subst hb
      rw [hf] at h
      cases h
      exact i.elim
    · rw [upd_ne hb]
      exact h⟩
  have exx : Ex β H β' (upd H' a (.dK ys)) := by
    refine ⟨⟨x.pre, fun b o i h => ?_⟩, fun b o u h => ?_⟩
    · have hb : b ≠ a := by
        rintro rfl
        rw [e] at h
        cases h
        exact i
      rw [upd_ne hb]
      exact x.imm b o i (by rw [upd_ne hb]; exact h)
    · have hb : b ≠ a := by
        rintro rfl
        rw [e] at h
        cases h
      rw [upd_ne hb]
      exact x.lk b o u (by rw [upd_ne hb]; exact h)
  refine ⟨hf, ew, exx, ⟨by rw [R'.len, List.length_set], R'.inj, fun i b q hb hq => ?_⟩⟩
  by_cases hi : i = n
  · subst hi
    rw [ha'] at hb
    cases hb
    have hlt : i < S'.length := by rw [← R'.len]; exact (List.getElem?_eq_some_iff.mp ha').1
    rw [List.getElem?_set_self hlt] at hq
    cases hq
    exact ⟨ys, upd_same, m.mono exx.toEw⟩
  · rw [List.getElem?_set_ne (Ne.symm hi)] at hq
    exact (R'.obj i b q hb hq).keep ew (upd_ne fun z => hi (R'.inj i n a (by rw [← z]; exact hb) ha'))
theorem cs_lock {md : MD} (h : PS X st (sM G W s)) : PS X st (sM G W (mLock md s)) := by
  refine ps_imp (ps_lock h) fun E σ H q => ?_
  obtain ⟨β, ρ, S, R, Vr, q⟩ := q
  unfold mLock at q
  split at q
  · rename_i n hn
    split at q
    · rename_i kvs hs
      obtain ⟨a, ha, ys, q1, q2⟩ := R.at hs
      refine ⟨a, .dK ys, q1, trivial, fun od => ?_⟩
      obtain ⟨R1, e1⟩ := lock_in (od := od) R ha q1 q2
      refine ⟨β, ρ, _, R1, Vr.mono e1.toEw, ?_⟩
      cases hm : s ρ (S.set n (.lck kvs)) with
      | stuck => rw [hm] at q; exact q.elim
      | ex c r S' =>
        rw [hm] at q
        exact q.mono e1
      | ok p S' =>
        rw [hm] at q
        simp only at q
        split at q
        · intro β' H' e' R'
          obtain ⟨hf, ew, ex, R2⟩ := lock_out R ha q1 q2 e' R'
          have fin := q β' _ ex R2
          obtain ⟨f, ρ'⟩ := p
          cases f with
          | nx => exact fun σ' V' => ⟨hf, fin σ' (V'.mono ew)⟩
          | bk => exact fun σ' V' => ⟨hf, fin σ' (V'.mono ew)⟩
          | ct => exact fun σ' V' => ⟨hf, fin σ' (V'.mono ew)⟩
          | rt d => exact fun v r => ⟨hf, fin v (r.mono ew)⟩
        · exact q.elim
    · exact q.elim
  · exact q.elim
theorem ce_lock {md : MD} (h : PE X e (tM G W m)) : PE X e (tM G W (mLockE md m)) := by
  refine pe_imp (pe_lock h) fun σ H Q q => ?_
  obtain ⟨β, ρ, S, R, Vr, q⟩ := q
  unfold mLockE at q
  split at q
  · rename_i n hn
    split at q
    · rename_i kvs hs
      obtain ⟨a, ha, ys, q1, q2⟩ := R.at hs
      refine ⟨a, .dK ys, q1, trivial, fun od => ?_⟩
      obtain ⟨R1, e1⟩ := lock_in (od := od) R ha q1 q2
      refine ⟨β, ρ, _, R1, Vr.mono e1.toEw, ?_⟩
      cases hm : m ρ (S.set n (.lck kvs)) with
      | stuck => rw [hm] at q; exact q.elim
      | ex c r S' =>
        rw [hm] at q
        exact q.mono e1
      | ok p S' =>
        rw [hm] at q
        simp only at q
        split at q
        · intro β' H' e' R' v rv
          obtain ⟨hf, ew, ex, R2⟩ := lock_out R ha q1 q2 e' R'
          exact ⟨hf, q β' _ ex R2 v (rv.mono ew)⟩
        · exact q.elim
    · exact q.elim
  · exact q.elim

/-! ### what is walked of a locked dict -/
def mWalk (g : Key × D → D) (m : ME) : MI := fun ρ S => (m ρ S).bind fun d S1 => match lckO d S1 with
  | some kvs => .ok (.vals (kvs.map g)) S1
  | none => .stuck
def gItem : Key × D → D := fun p => .tup [kD p.1, p.2]
def gKey : Key × D → D := fun p => kD p.1
def gVal : Key × D → D := fun p => p.2
theorem rps_get {κ : Type} {β : List Addr} {H : Hp} {ys : List (κ × L2.V)} {kvs : List (κ × D)} (m : RPs K β H ys kvs) : ∀ {i : Nat} {q : κ × D}, kvs[i]? = some q → ∃ v, ys[i]? = some (q.1, v) ∧ RD K β H v q.2 := by
  unfold RPs at m
  induction m with
  | nil => intro i q h; simp at h
  | @cons p q' ps qs a b ih =>
    intro i q h
    cases i with
    | zero =>
      simp at h
      subst h
      obtain ⟨k1, v1⟩ := p
      obtain ⟨e1, e2⟩ := a
      simp only at e1 e2
      subst e1
      exact ⟨v1, rfl, e2⟩
    | succ i =>
      obtain ⟨v, h1, h2⟩ := ih (by simpa using h)
      exact ⟨v, by simpa using h1, h2⟩
theorem jok_walk {g : Key × D → D} {J : It} {β₀ : List Addr} {H₀ : Hp} {a : Addr} {o : Obj} {ys : List (Key × L2.V)} {kvs : List (Key × D)} (e : H₀ a = some (.frz o (.dK ys))) (m : RPs G.K β₀ H₀ ys kvs)
    (stop : ∀ i H, H a = some (.frz o (.dK ys)) → ys.length ≤ i → J.stop i H) (go : ∀ i H, H a = some (.frz o (.dK ys)) → i < ys.length → J.go i H)
    (yl : ∀ (β : List Addr) (S : So) (H : Hp) i k v d x H', Rl G.K G.cl β S H → ys[i]? = some (k, v) → RD G.K β H v d → J.yld i H x H' → Ex β H β H' ∧ Rl G.K G.cl β S H' ∧ RD G.K β H' x (g (k, d))) : JOk G (.vals (kvs.map g)) J β₀ H₀ := by
  intro β S H i ex R
  have ef := ex.lk _ _ _ e
  have m' := m.mono ex.toEw
  refine ⟨fun h => ?_, fun d h => ?_⟩
  · have h : (kvs.map g)[i]? = none := by simpa [IT.at] using h
    have := List.getElem?_eq_none_iff.mp h
    rw [List.length_map, ← m.length] at this
    exact stop i H ef this
  · have h : (kvs.map g)[i]? = some d := by simpa [IT.at] using h
    rw [List.getElem?_map] at h
    cases hq : kvs[i]? with
    | none => rw [hq] at h; cases h
    | some q =>
      rw [hq] at h
      cases h
      obtain ⟨v, h1, h2⟩ := rps_get m' hq
      exact ⟨go i H ef (List.getElem?_eq_some_iff.mp h1).1, fun x H' y => yl β S H i q.1 v q.2 x H' R h1 h2 y⟩
theorem lck_rel {β : List Addr} {S : So} {H : Hp} (R : Rl K cl β S H) {v : L2.V} {d : D} {kvs : List (Key × D)} (r : RD K β H v d) (h : lckO d S = some kvs) : ∃ a o ys, v = .ref a ∧ H a = some (.frz o (.dK ys)) ∧ RPs K β H ys kvs := by
  unfold lckO at h
  split at h
  · rename_i n
    cases r with
    | ref hn =>
      split at h
      · rename_i l hl
        cases h
        obtain ⟨ys, o, q1, q2⟩ := R.get hl hn
        exact ⟨_, o, ys, rfl, q1, q2⟩
      · cases h
  · cases h
theorem ci_items {elts : List Expr} {kk : Nat} {tpos : Pos} (ha : PE X e (tM G W m)) (hbase : attributeBase e "items" X.env (eval e X.env) = eval e X.env := by rfl) (hline : (apos.endLine == cpos.line) = true := by rfl) :
    PI X (.Tuple elts kk tpos) (.Call (.Attribute e "items" apos) [] [] cpos) (iM G W (mWalk gItem m)) := by
  refine pi_imp (pi_items ha hbase hline) fun σ H R' h => ?_
  obtain ⟨β, ρ, S, R, Vr, h⟩ := h
  refine ⟨β, ρ, S, R, Vr, h.bind.imp fun d S1 β1 H1 e1 R1 h1 x rx => ?_⟩
  split at h1
  · rename_i kvs hk
    obtain ⟨a, o, ys, rfl, q1, q2⟩ := lck_rel R1 rx hk
    refine ⟨a, o, ys, rfl, q1, h1 β1 H1 Ex.refl R1 _ (jok_walk q1 q2 (fun i H e hi => ⟨e, hi⟩) (fun i H e hi => ⟨e, hi⟩) fun β S H i k v d x H' R hy rv y => ?_)⟩
    obtain ⟨T, k', v', h1, rfl, hT, rfl⟩ := y
    rw [hy] at h1
    cases h1
    exact ⟨Ex.fresh hT, R.fresh hT, .tup (.inl (.inl upd_same)) (.cons (rd_key _) (.cons (rv.mono (Ex.fresh hT).toEw) .nil))⟩
  · exact h1.elim
theorem ci_keys (ha : PE X e (tM G W m)) : PI X tg e (iM G W (mWalk gKey m)) := by
  refine pi_imp (pi_keys ha) fun σ H R' h => ?_
  obtain ⟨β, ρ, S, R, Vr, h⟩ := h
  refine ⟨β, ρ, S, R, Vr, h.bind.imp fun d S1 β1 H1 e1 R1 h1 x rx => ?_⟩
  split at h1
  · rename_i kvs hk
    obtain ⟨a, o, ys, rfl, q1, q2⟩ := lck_rel R1 rx hk
    refine ⟨a, o, rfl, .inl ⟨ys, q1, h1 β1 H1 Ex.refl R1 _ (jok_walk q1 q2 (fun i H e hi => ⟨e, hi⟩) (fun i H e hi => ⟨e, hi⟩) fun β S H i k v d x H' R hy rv y => ?_)⟩⟩
    obtain ⟨rfl, k', v', h1, rfl⟩ := y
    rw [hy] at h1
    cases h1
    exact ⟨Ex.refl, R, rd_key _⟩
  · exact h1.elim
theorem ci_values (ha : PE X e (tM G W m)) (hbase : attributeBase e "values" X.env (eval e X.env) = eval e X.env := by rfl) (hline : (apos.endLine == cpos.line) = true := by rfl) : PI X tg (.Call (.Attribute e "values" apos) [] [] cpos) (iM G W (mWalk gVal m)) := by
  refine pi_imp (pi_values ha hbase hline) fun σ H R' h => ?_
  obtain ⟨β, ρ, S, R, Vr, h⟩ := h
  refine ⟨β, ρ, S, R, Vr, h.bind.imp fun d S1 β1 H1 e1 R1 h1 x rx => ?_⟩
  split at h1
  · rename_i kvs hk
    obtain ⟨a, o, ys, rfl, q1, q2⟩ := lck_rel R1 rx hk
    refine ⟨a, o, ys, rfl, q1, h1 β1 H1 Ex.refl R1 _ (jok_walk q1 q2 (fun i H e hi => ⟨e, hi⟩) (fun i H e hi => ⟨e, hi⟩) fun β S H i k v d x H' R hy rv y => ?_)⟩
    obtain ⟨rfl, k', h1⟩ := y
    rw [hy] at h1
    cases h1
    exact ⟨Ex.refl, R, rv⟩
  · exact h1.elim
end
end Mi
namespace Mi
open PySem PySem.Spec PyProof.Rows L2
/-! ### x += e, o[i] += e -/
def iaddD : D → D → So → Rs D
  | .int i, .int j, S => .ok (.int (i + j)) S
  | .str x, .str y, S => if x.length + y.length ≤ lim then .ok (.str (x ++ y)) S else .stuck
  | _, _, _ => .stuck
def rIadd : R2 := fun x y H Q => (rI0 (fun i j => .int (i + j)) x y H Q) ∨ (∃ i j, x = .str i ∧ y = .str j ∧ i.length + j.length ≤ sizeLine ∧ Q (.str (i ++ j)) H)
theorem oi_iadd {X : Cx} : OpR X (inplaceOp .Add) rIadd := iop_add.or iop_add_str
theorem om_iadd {G : Gs} : OpM G iaddD rIadd := by
  intro W β S H x y d e Q R rx ry h
  unfold iaddD at h
  split at h
  · cases rx
    cases ry
    exact .inl ⟨_, _, rfl, rfl, h β H Ex.refl R _ (.int _)⟩
  · cases rx
    cases ry
    split at h
    · rename_i hl
      exact .inr ⟨_, _, rfl, rfl, lim_le hl, h β H Ex.refl R _ (.str _)⟩
    · exact h.elim
  · exact h.elim
theorem om_isub {G : Gs} : OpM G subD (rI0 fun i j => .int (i - j)) := om_sub
section
variable {X : Cx} {G : Gs} {W : WX} {k : Nat} {a e o i : Expr} {m ma mo mi : ME} {pos tpos : Pos}
/-- o[i], by values: a list's item, a dict's value -/
theorem get_any (hu : X.A.units + 160 < cLine) : PGet X (fun x y H Q => rIxL X.K x y H Q ∨ rIxD x y H Q) := by
  intro pins s σ H x y v u Q I rx ry h
  rcases h with h | h
  · obtain ⟨p, xs, i, z, rfl, rfl, hq, he, q⟩ := h
    cases rx
    obtain ⟨t, rfl⟩ := ry
    obtain ⟨its, r, pl, hz⟩ := I.list hq
    obtain ⟨j, h1, h2, h3, h4, h5⟩ := atI_get he
    obtain ⟨w, ew, rw'⟩ := r.get h2
    have hl := r.length
    have hn := line63
    have fin : EP X pins σ Q w s := ⟨z, H, I, rw', q⟩
    by_cases h0 : 0 ≤ i
    · have hj : i.toNat = j := by
        rw [seqIndex_of h0 h5] at h1
        exact Option.some.inj h1
      exact wpAny_getItem_list pl.isList h0 (by omega) (by rw [hj]; simpa using ew) fin
    · have hj : (i + (its.toArray.size : Int)).toNat = j := by
        rw [seqIndex_neg (by omega) h4] at h1
        rw [List.size_toArray, ← hl]
        exact Option.some.inj h1
      exact wpAny_getItem_list_neg pl.isList (by omega) (by rw [List.size_toArray] <;> omega) (by omega) (by rw [hj]; simpa using ew) fin
  · obtain ⟨a, z, rfl, g, q⟩ := h
    cases rx
    exact d_getItem (by omega) I g ry fun w' s' I' r' => ⟨z, H, I', r', q⟩
def gixO (S : So) (d e : D) : Option D := match vw S d with
  | .lst ds => match e with
    | .int i => atI ds i
    | _ => none
  | .dct kvs => (keyD e).bind fun k => valD kvs k
  | _ => none
/-- o[i] op= e -/
def mAugS (f : D → D → So → Rs D) (mo mi me : ME) : MS := fun ρ S => (mo ρ S).bind fun d S1 => (mi ρ S1).bind fun e S2 => match gixO S2 d e with
  | some x => (me ρ S2).bind fun y S3 => (f x y S3).bind fun z S4 => (setD d e z S4).bind fun _ S5 => .ok (.nx, ρ) S5
  | none => .stuck
theorem gix_rel {β : List Addr} {S : So} {H : Hp} {x y : L2.V} {d e z : D} {Q : VK} (R : Rl G.K G.cl β S H) (rx : RD G.K β H x d) (ry : RD G.K β H y e) (hz : gixO S d e = some z) (h : ∀ v, RD G.K β H v z → Q v H) : rIxL G.K x y H Q ∨ rIxD x y H Q := by
  have hw := rx.vw R
  unfold gixO at hz
  split at hz
  · rename_i ds hv
    rw [hv] at hw
    split at hz
    · rename_i i
      cases ry
      obtain ⟨p, xs, rfl, q1, q2⟩ := hw
      obtain ⟨v, e1, r1⟩ := atI_rel q2 hz
      exact .inl ⟨p, xs, i, v, rfl, rfl, q1, e1, h v r1⟩
    · cases hz
  · rename_i kvs hv
    rw [hv] at hw
    obtain ⟨a, ys, rfl, q1, q2⟩ := hw
    cases hk : keyD e with
    | none => rw [hk] at hz; cases hz
    | some k =>
      rw [hk] at hz
      have hz : valD kvs k = some z := hz
      have := ry.key hk
      subst this
      rcases valD_rel q2 k with ⟨_, c⟩ | ⟨v, d', c1, c2, c3⟩
      · rw [show valD kvs k = some z from hz] at c; cases c
      · rw [show valD kvs k = some z from hz] at c2
        cases c2
        exact .inr ⟨a, v, rfl, c1 ▸ DGet.k (k := k) q1, h v c3⟩
  · cases hz
theorem cs_augS {op : Operator} {r : R2} {f : D → D → So → Rs D} (hu : X.A.units + 160 < cLine) (hK : X.K = G.K) (hop : OpR X (inplaceOp op) r) (hm : OpM G f r) (ho : PE X o (tM G W mo)) (hi : PE X i (tM G W mi)) (he : PE X e (tM G W m))
    (ha : ∀ ov iv new, augStore i ov iv new = (do holding [new, ov, iv] (setItem ov iv new); release [new, ov, iv] []; pure .next) := by intros; rfl) : PS X (.AugAssign (.Subscript o i tpos) op e pos) (sM G W (mAugS f mo mi m)) :=
  ps_imp (ps_augS ho hi (get_any hu) he (fun pins s σ H x y v u Q I r1 r2 h => hop pins s σ H x y v u Q I r1 r2 h) (os_any hu) ha) fun D σ H h => by
  obtain ⟨β, ρ, S, R, V, h⟩ := h
  refine ⟨β, ρ, S, R, V, h.bind.imp fun d S1 β1 H1 e1 R1 h1 x rx => ?_⟩
  refine ⟨β1, ρ, S1, R1, V.mono e1.toEw, h1.bind.imp fun e S2 β2 H2 e2 R2 h2 y ry => ?_⟩
  split at h2
  · rename_i z hz
    rw [hK]
    refine gix_rel R2 (rx.mono e2.toEw) ry hz fun v rv => ?_
    refine ⟨β2, ρ, S2, R2, V.mono (e1.trans e2).toEw, h2.bind.imp fun w S3 β3 H3 e3 R3 h3 y' ry' => ?_⟩
    refine hm W β3 S3 H3 v y' _ _ _ R3 (rv.mono e3.toEw) ry' (h3.bind.imp fun n S4 β4 H4 e4 R4 h4 nv rn => ?_)
    refine sm_any W β4 S4 H4 x y nv d e n _ R4 (rx.mono (e2.trans (e3.trans e4)).toEw) (ry.mono (e3.trans e4).toEw) rn (h4.bind.imp fun _ S5 β5 H5 e5 R5 h5 => ?_)
    exact h5.ok_at R5 σ (V.mono (e1.trans (e2.trans (e3.trans (e4.trans e5)))).toEw)
  · exact h2.elim
end
/-! ### dict(d) -/
def dctO (S : So) (d : D) : Option (List (Key × D)) := match vw S d with
  | .dct kvs => some kvs
  | _ => none
def dictD : List D → So → Rs D
  | [d], S => match dctO S d with
    | some kvs => .ok (.ref S.length) (S ++ [.dct kvs])
    | none => .stuck
  | _, _ => .stuck
theorem dct_rel {K : PySem.W.Frag} {cl : Str → Option Addr} {β : List Addr} {S : So} {H : Hp} (R : Rl K cl β S H) {v : L2.V} {d : D} {kvs : List (Key × D)} (r : RD K β H v d) (h : dctO S d = some kvs) : ∃ a ys, v = .ref a ∧ Rd H a (.dK ys) ∧ RPs K β H ys kvs := by
  have hw := r.vw R
  unfold dctO at h
  split at h
  · rename_i l hl
    cases h
    rw [hl] at hw
    obtain ⟨a, ys, rfl, q1, q2⟩ := hw
    exact ⟨a, ys, rfl, .inl q1, q2⟩
  · cases h
theorem cm_dict {G : Gs} : CallM G dictD (fun xs H Q => ∃ (a : Addr) (kvs : List (Key × L2.V)), xs = [.ref a] ∧ Rd H a (.dK kvs) ∧ ∀ p, H p = none → Q (.ref p) (upd H p (.dK kvs))) := by
  intro W β S H xs ds Q R rs h
  unfold dictD at h
  split at h
  · rename_i d
    split at h
    · rename_i kvs hk
      obtain ⟨v, rfl, rv⟩ := rs.one
      obtain ⟨a, ys, rfl, q1, q2⟩ := dct_rel R rv hk
      refine ⟨a, ys, rfl, q1, fun p hp => ?_⟩
      have e' := Ex.new (β := β) (ho := HO.dK ys) hp
      exact h _ _ e' (R.new hp ⟨ys, upd_same, q2.mono e'.toEw⟩) _ (.ref (last_of R.len))
    · exact h.elim
  · exact h.elim
/-! ### {k: v, ..} -/
def pairsM (ms : List (ME × ME)) : Ro → So → Rs (List (D × D)) := match ms with
  | [] => fun _ S => .ok [] S
  | (mk, mv) :: r => fun ρ S => (mk ρ S).bind fun d S1 => (mv ρ S1).bind fun e S2 => (pairsM r ρ S2).bind fun ps S3 => .ok ((d, e) :: ps) S3
def keysO : List (D × D) → Option (List (Key × D))
  | [] => some []
  | (d, e) :: r => match keyD d, keysO r with
    | some k, some l => some ((k, e) :: l)
    | _, _ => none
def mergeD (kvs more : List (Key × D)) : List (Key × D) := more.foldl (fun acc kv => putD acc kv.1 kv.2) kvs
/-- the new dict stands empty while the pairs are made -/
def mDisp (ms : List (ME × ME)) : ME := fun ρ S => (pairsM ms ρ (S ++ [.dct []])).bind fun ps S1 => match keysO ps, S1[S.length]? with
  | some kvs, some (.dct []) => if kvs.length ≤ 15 then .ok (.ref S.length) (S1.set S.length (.dct (mergeD [] kvs))) else .stuck
  | _, _ => .stuck
section
variable {X : Cx} {G : Gs} {W : WX} {k : Nat} {a e o i : Expr} {m ma mo mi : ME} {pos tpos : Pos}
def RQs (K : PySem.W.Frag) (β : List Addr) (H : Hp) : List (L2.V × L2.V) → List (D × D) → Prop := Paired fun p q => RD K β H p.1 q.1 ∧ RD K β H p.2 q.2
theorem pairs_walk : ∀ {ms : List (ME × ME)} {β : List Addr} {S : So} {H : Hp} {σ : Sl} {ρ : Ro} {Q : List (L2.V × L2.V) → Hp → Prop}, Rl G.K G.cl β S H → RVs G β H σ ρ →
    Gd G W β H (pairsM ms ρ S) (fun ds _ β' H' => ∀ ps, RQs G.K β' H' ps ds → Q ps H') → tPairs (ms.map fun p => (tM G W p.1, tM G W p.2)) σ H Q
  | [], β, S, H, σ, ρ, Q, R, V, h => h β H Ex.refl R [] .nil
  | (mk, mv) :: r, β, S, H, σ, ρ, Q, R, V, h => by
    refine ⟨β, ρ, S, R, V, h.bind.imp fun d S1 β1 H1 e1 R1 h1 x rx => ?_⟩
    refine ⟨β1, ρ, S1, R1, V.mono e1.toEw, h1.bind.imp fun e S2 β2 H2 e2 R2 h2 y ry => ?_⟩
    refine pairs_walk R2 (V.mono (e1.trans e2).toEw) (h2.bind.imp fun ds S3 β3 H3 e3 R3 h3 ps rp => ?_)
    exact h3 β3 H3 Ex.refl R3 _ (.cons ⟨rx.mono (e2.trans e3).toEw, ry.mono e3.toEw⟩ rp)
theorem keys_rel {K : PySem.W.Frag} {β : List Addr} {H : Hp} : ∀ {ps : List (L2.V × L2.V)} {ds : List (D × D)} {kvs : List (Key × D)}, RQs K β H ps ds → keysO ds = some kvs → ∃ ys : List (Key × L2.V), ps = ys.map (fun kv => (L2.kV kv.1, kv.2)) ∧ RPs K β H ys kvs := by
  intro ps ds kvs r
  unfold RQs at r
  induction r generalizing kvs with
  | nil =>
    intro h
    cases h
    exact ⟨[], rfl, .nil⟩
  | @cons p q ps qs a b ih =>
    intro h
    obtain ⟨d, e⟩ := q
    unfold keysO at h
    split at h
    · rename_i k l hk hl
      cases h
      obtain ⟨ys, rfl, m⟩ := ih hl
      have := a.1.key hk
      obtain ⟨p1, p2⟩ := p
      simp only at this
      subst this
      exact ⟨(k, p2) :: ys, rfl, .cons ⟨rfl, a.2⟩ m⟩
    · cases h
theorem merge_rel {K : PySem.W.Frag} {β : List Addr} {H : Hp} : ∀ {ys : List (Key × L2.V)} {kvs : List (Key × D)} {as : List (Key × L2.V)} {bs : List (Key × D)}, RPs K β H ys kvs → RPs K β H as bs → RPs K β H (mergeK as ys) (mergeD bs kvs) := by
  intro ys kvs as bs m
  unfold RPs at m
  induction m generalizing as bs with
  | nil => intro q; exact q
  | @cons p q ps qs a b ih =>
    intro q0
    have e := put_rel q0 p.1 a.2
    have e2 := a.1
    show RPs K β H (mergeK (putK as p.1 p.2) ps) (mergeD (putD bs q.1 q.2) qs)
    rw [← e2]
    exact ih e
theorem ce_disp {keys : List (Option Expr)} {values : List Expr} {ms : List (ME × ME)} (h : PPs X pos keys values (ms.map fun p => (tM G W p.1, tM G W p.2))) (hall : keys.all (·.isSome) = true := by rfl) (hl : keys.length = values.length := by rfl) (h0 : keys ≠ [] := by exact fun h => nomatch h)
    (h15 : keys.length ≤ 15 := by decide) : PE X (.Dict keys values pos) (tM G W (mDisp ms)) := pe_imp (pe_disp h hall hl h0 h15) fun σ H Q h => by
  obtain ⟨β, ρ, S, R, V, h⟩ := h
  intro p hp
  have e0 := Ex.new (β := β) (ho := HO.dK []) hp
  have R0 : Rl G.K G.cl (β ++ [p]) (S ++ [.dct []]) (upd H p (.dK [])) := R.new hp ⟨[], upd_same, .nil⟩
  have hn0 := last_of (p := p) R.len
  refine pairs_walk R0 (V.mono e0.toEw) ((h.mono e0).bind.imp fun ds S1 β1 H1 e1 R1 h1 ps rp => ?_)
  split at h1
  · rename_i kvs hk hs
    have hn1 := e1.pre _ _ hn0
    obtain ⟨ys0, q1, q2⟩ := R1.get hs hn1
    have : ys0 = [] := by
      have := q2.length
      simpa using this
    subst this
    obtain ⟨ys, rfl, m⟩ := keys_rel rp hk
    split at h1
    · rename_i hlen
      refine ⟨q1, ys, rfl, by rw [m.length]; exact hlen, ?_⟩
      obtain ⟨R', e'⟩ := R1.upd (ho := .dK (mergeK [] ys)) (o' := .dct (mergeD [] kvs)) hn1 (fun o u z => by rw [q1] at z; cases z) fun e' => ⟨_, upd_same, (merge_rel m .nil).mono e'.toEw⟩
      exact h1 _ _ e' R' _ (.ref (e'.pre _ _ hn1))
    · exact h1.elim
  · exact h1.elim
theorem cp_nil : PPs X pos [] [] (([] : List (ME × ME)).map fun p => (tM G W p.1, tM G W p.2)) := pps_nil
theorem cp_cons {ks : List (Option Expr)} {vs : List Expr} {mk mv : ME} {ms : List (ME × ME)} {kx vx : Expr} (hk : PE X kx (tM G W mk)) (hv : PE X vx (tM G W mv)) (hr : PPs X pos ks vs (ms.map fun p => (tM G W p.1, tM G W p.2))) :
    PPs X pos (some kx :: ks) (vx :: vs) (((mk, mv) :: ms).map fun p => (tM G W p.1, tM G W p.2)) := pps_cons hk hv hr
end
end Mi
namespace MiE
open PySem
open Sem (wp)
open AutoSeq1 (wpAny_loadPart')
theorem meets_enumerate_newT (l : Addr) (items : Array Value) (n : Nat) (dct : Option Addr) (sl : Array (Option Value)) :
    Meets (Builtin.«enumerate.__new__» ⟨[.type "enumerate", .ref l], []⟩) (fun _ R s => s.heap.get? l = some { cls := .type "tuple", dict := dct, data := .seq items n, slots := sl } ∧
      R (.ok (.ret (.ref (s.heap.push { cls := .type "tuple_iterator", data := .fields #[.ref l, .int 0 0] }).objs.size)))
        { s with heap := (s.heap.push { cls := .type "tuple_iterator", data := .fields #[.ref l, .int 0 0] }).push { cls := .type "enumerate", data := .fields #[.none, .bool false, .ref s.heap.objs.size, rawInt 0, .none, .none] } }) :=
  .of_wp fun prog w A R s h => by
    obtain ⟨hp, g, d, tk, os⟩ := s; obtain ⟨hl, h⟩ := h
    have hsub := sub_enumerate
    have hL : Heap.IsTuple (Shared.heap ⟨hp, g, d, tk, os⟩) l items := ⟨_, hl, rfl, n, rfl⟩
    wp_walk using wpAny_loadPart' hl
    refine wpAny_stack_any fun st => wpAny_pure ?_
    split
    · rename_i c _ _ _ _ _
      cases (c == Value.type "enumerate")
      · wp_walk using wpAny_loadPart' hl, wpAny_pyIter_tuple hL
        exact ⟨_, rfl, h⟩
      · wp_walk using wpAny_loadPart' hl, wpAny_pyIter_tuple hL
        exact ⟨_, rfl, h⟩
    · wp_walk using wpAny_loadPart' hl, wpAny_pyIter_tuple hL
      exact ⟨_, rfl, h⟩
theorem call_enumerate_tup {prog : Program} {w : World} {A : Around} {E : Value → Shared → Prop} {s : Shared} {l : Addr} {items : Array Value} {Q : Value → Shared → Prop} (hL : s.heap.IsTuple l items)
    (h : ∀ h', IsEnum h' (s.heap.objs.size + 1) s.heap.objs.size 0 .none → h'.IsTupleIter s.heap.objs.size l 0 → h'.objs.size = s.heap.objs.size + 2 →
      (∀ b o, s.heap.get? b = some o → h'.get? b = some o) → Q (.ref (s.heap.objs.size + 1)) { s with heap := h' }) :
    wpAny (model prog w) A (call (.type "enumerate") [.ref l]) Q E s := by
  obtain ⟨⟨c, dct, dt, sl⟩, hl, hc, n, hd⟩ := hL
  replace hc : c = .type "tuple" := hc
  replace hd : dt = .seq items n := hd
  subst hc hd
  refine callType_new F.called_enumerate (by decide) (F.typeCall_enumerate_1 _) (F.newCall_enumerate_1 _) (fun obj => F.args_object_init_2 obj _) F.entry_enumerate_new
    (meets_enumerate_newT l items n dct sl) ⟨hl, ?_⟩
  have hz : (s.heap.push { cls := .type "tuple_iterator", data := .fields #[.ref l, .int 0 0] }).objs.size = s.heap.objs.size + 1 := Heap.size_push ..
  show _ ∧ _
  rw [hz]
  have he : IsEnum ((s.heap.push { cls := .type "tuple_iterator", data := .fields #[.ref l, .int 0 0] }).push
      { cls := .type "enumerate", data := .fields #[.none, .bool false, .ref s.heap.objs.size, rawInt 0, .none, .none] }) (s.heap.objs.size + 1) s.heap.objs.size 0 .none := by
    have := Heap.get?_push_size (s.heap.push { cls := .type "tuple_iterator", data := .fields #[.ref l, .int 0 0] })
      (o := { cls := .type "enumerate", data := .fields #[.none, .bool false, .ref s.heap.objs.size, rawInt 0, .none, .none] }) rfl
    rw [hz] at this; exact this
  refine ⟨⟨_, he, rfl⟩, h _ he ⟨_, Heap.get?_push_of_some _ (Heap.get?_push_size _ rfl), rfl, rfl⟩ (by rw [Heap.size_push, hz]) fun b o x => Heap.get?_push_of_some _ (Heap.get?_push_of_some _ x)⟩
section
variable {prog : Program} {w : World} {A : Around} {E : Value → Shared → Prop} {s : Shared}
theorem nextOf_tup_item {it l : Addr} {i : Nat} {items} {x : Value} {Q : Value → Shared → Prop} (hit : s.heap.IsTupleIter it l i)
    (hl : s.heap.IsTuple l items) (hx : items[i]? = some x)
    (hQ : ∀ h', h'.IsTupleIter it l (i + 1) → Heap.SameBut it s.heap h' → Q x { s with heap := h' }) :
    wpAny (model prog w) A (Builtin.SmallTypes.nextOf (.ref it)) Q E s := by
  obtain ⟨o, ho, hc, hd⟩ := id hit
  obtain ⟨ol, hol, _, nl, hdl⟩ := hl
  unfold Builtin.SmallTypes.nextOf
  refine wpAny_bind (wpAny_callSpecial?_slot (name := Str.ofString "__next__") hit.typeIs F.slot_tuple_iterator_next
    (wpAny_call_entry F.slot_tuple_iterator_next hit.typeIs F.entry_tuple_iterator_next ?_ (F.args_tuple_iterator_next_1 _)))
  show wpAny _ _ (field (.ref it) 0 >>= _) _ _ s
  refine wpAny_bind (wpAny_field ho hd (x := .ref l) rfl ?_)
  show wpAny _ _ (if (Value.ref l == Value.none) = true then _ else _) _ _ s
  rw [if_neg (show ¬ ((Value.ref l == Value.none) = true) from Bool.false_ne_true)]
  show wpAny _ _ (field (.ref it) 1 >>= _) _ _ s
  refine wpAny_bind (wpAny_field ho hd (x := .int i 0) rfl ?_)
  show wpAny _ _ (seqItems? (.ref l) >>= _) _ _ s
  refine wpAny_bind (wpAny_seqItems hol hdl ?_)
  simp only [Int.toNat_natCast, hx]
  refine wpAny_bind (wpAny_setField ho hd (by simp) (wpAny_pure ⟨x, rfl, wpAny_pure (hQ _ ?_ (Heap.SameBut.update ..))⟩))
  exact ⟨_, Heap.get?_update_self _ ho (Obj.isFreed_of_fields (Obj.data_mapFields hd _)), (Obj.cls_mapFields ..).trans hc, by
    rw [Obj.data_mapFields hd]; simp [rawInt]⟩

theorem nextOf_tup_end {it l : Addr} {i : Nat} {items} {Q : Value → Shared → Prop} (hh : A.handled = none)
    (hit : s.heap.IsTupleIter it l i) (hl : s.heap.IsTuple l items) (hx : items[i]? = none)
    (hE : ∀ h' e, Heap.ExtBut it s.heap h' → (∃ o, h'.get? e = some o ∧ o.cls = .type "StopIteration") → E (.ref e) { s with heap := h' }) :
    wpAny (model prog w) A (Builtin.SmallTypes.nextOf (.ref it)) Q E s := by
  obtain ⟨o, ho, hc, hd⟩ := id hit
  obtain ⟨ol, hol, _, nl, hdl⟩ := hl
  unfold Builtin.SmallTypes.nextOf
  refine wpAny_bind (wpAny_callSpecial?_slot (name := Str.ofString "__next__") hit.typeIs F.slot_tuple_iterator_next
    (wpAny_call_entry F.slot_tuple_iterator_next hit.typeIs F.entry_tuple_iterator_next ?_ (F.args_tuple_iterator_next_1 _)))
  show wpAny _ _ (field (.ref it) 0 >>= _) _ _ s
  refine wpAny_bind (wpAny_field ho hd (x := .ref l) rfl ?_)
  show wpAny _ _ (if (Value.ref l == Value.none) = true then _ else _) _ _ s
  rw [if_neg (show ¬ ((Value.ref l == Value.none) = true) from Bool.false_ne_true)]
  show wpAny _ _ (field (.ref it) 1 >>= _) _ _ s
  refine wpAny_bind (wpAny_field ho hd (x := .int i 0) rfl ?_)
  show wpAny _ _ (seqItems? (.ref l) >>= _) _ _ s
  refine wpAny_bind (wpAny_seqItems hol hdl ?_)
  simp only [Int.toNat_natCast, hx]
  refine wpAny_bind (wpAny_rule (wpAny_bind (wpAny_setField ho hd (by simp) ?_)))
  show wpAny _ _ (newExc (.type "StopIteration") [] >>= _) _ _ _
  refine wpAny_bind ?_
  simp only [newExc, newTuple]
  refine wpAny_bind (wpAny_newObj_type ?_ (by size_fits))
  refine wpAny_bind (m := firstArgMember _ _) (wpAny_of_eq (a := Value.none) (by first | rfl | (simp only [firstArgMember]; rfl)) ?_)
  refine wpAny_newObj_type ?_ (by size_fits)
  simp only [raiseNew]
  refine wpAny_bind (wpAny_handled ?_)
  first | rw [show A.in1.handled = none from hh] | rw [hh]
  refine wpAny_bind (wpAny_pure (wpAny_throw ?_))
  exact hE _ _ (((Heap.SameBut.update ..).extBut.push _).push _) ⟨_, Heap.get?_push_size _ rfl, rfl⟩

theorem enum_tup_next {e it l : Addr} {i : Nat} {items : Array Value} {x old : Value} {Q : Value → Shared → Prop}
    (he : IsEnum s.heap e it i old) (hit : s.heap.IsTupleIter it l i) (hl : s.heap.IsTuple l items) (hx : items[i]? = some x) (hne : e ≠ it)
    (hQ : ∀ h', IsEnumOut h' e it ((i : Int) + 1) x s.heap.objs.size → h'.IsTupleIter it l (i + 1) →
      h'.get? s.heap.objs.size = some { cls := .type "tuple", data := .seq #[.int i s.toks, x] } → h'.objs.size = s.heap.objs.size + 1 →
      (∀ b o, b ≠ e → b ≠ it → s.heap.get? b = some o → h'.get? b = some o) → Q (.ref s.heap.objs.size) { s with heap := h', toks := s.toks + 1 }) :
    wpAny (model prog w) A (Builtin.«enumerate.__next__» ⟨[.ref e], []⟩) (fun fin s' => ∃ v, fin = .done (.ret v) ∧ Q v s') E s := by
  obtain ⟨hp, g, d, tk, os⟩ := s
  show wpAny _ _ (field (.ref e) 2 >>= _) _ _ _
  refine wpAny_bind (wpAny_field he rfl (x := .ref it) rfl ?_)
  refine wpAny_bind (nextOf_tup_item hit hl hx fun h₁ hit₁ hs₁ => ?_)
  replace hs₁ : Heap.SameBut it hp h₁ := hs₁
  have he₁ : IsEnum h₁ e it i old := (hs₁.2 e hne).trans he
  show wpAny _ _ (field (.ref e) 3 >>= _) _ _ ⟨h₁, g, d, tk, os⟩
  refine wpAny_bind (wpAny_field he₁ rfl (x := rawInt i) rfl ?_)
  show wpAny _ _ (field (.ref e) 4 >>= _) _ _ ⟨h₁, g, d, tk, os⟩
  refine wpAny_bind (wpAny_field he₁ rfl (x := .none) rfl ?_)
  show wpAny _ _ (mkInt i >>= _) _ _ ⟨h₁, g, d, tk, os⟩
  refine wpAny_bind (wpAny_mkInt ?_)
  show wpAny _ _ (setField (.ref e) 3 (rawInt ((i : Int) + 1)) >>= _) _ _ ⟨h₁, g, d, tk + 1, os⟩
  refine wpAny_bind (wpAny_setField_rec he₁ (by simp) fun h₂ he₂ hs₂ => ?_)
  replace hs₂ : Heap.SameBut e h₁ h₂ := hs₂
  replace he₂ : IsEnum h₂ e it ((i : Int) + 1) old := he₂
  show wpAny _ _ (setField (.ref e) 4 .none >>= _) _ _ ⟨h₂, g, d, tk + 1, os⟩
  refine wpAny_bind (wpAny_setField_rec he₂ (by simp) fun h₃ he₃ hs₃ => ?_)
  replace hs₃ : Heap.SameBut e h₂ h₃ := hs₃
  replace he₃ : IsEnum h₃ e it ((i : Int) + 1) old := he₃
  show wpAny _ _ (newTuple [.int i tk, x] >>= _) _ _ ⟨h₃, g, d, tk + 1, os⟩
  refine wpAny_bind (wpAny_newTuple ?_)
  have he₄ : IsEnum (h₃.push { cls := .type "tuple", data := .seq #[.int i tk, x] }) e it ((i : Int) + 1) old := Heap.get?_push_of_some _ he₃
  generalize hh₄ : h₃.push { cls := .type "tuple", data := .seq #[.int i tk, x] } = h₄ at he₄
  have hsz : h₃.objs.size = hp.objs.size := by rw [hs₃.1, hs₂.1, hs₁.1]
  have hel : e < hp.objs.size := Heap.lt_size he
  have ht₄ : h₄.get? hp.objs.size = some { cls := .type "tuple", data := .seq #[.int i tk, x] } := by rw [← hh₄, ← hsz]; exact Heap.get?_push_size _ rfl
  have hz₄ : h₄.objs.size = hp.objs.size + 1 := by rw [← hh₄, Heap.size_push, hsz]
  have hk₄ : ∀ b o, b ≠ e → b ≠ it → hp.get? b = some o → h₄.get? b = some o := fun b o hbe hbi hb => by
    rw [← hh₄]; exact Heap.get?_push_of_some _ (hs₃.extBut b o hbe (hs₂.extBut b o hbe (hs₁.extBut b o hbi hb)))
  have hit₄ : h₄.IsTupleIter it l (i + 1) := by
    rw [← hh₄]; obtain ⟨o, ho, r⟩ := (hit₁.extBut hs₂.extBut (Ne.symm hne)).extBut hs₃.extBut (Ne.symm hne); exact ⟨o, Heap.get?_push_of_some _ ho, r⟩
  show wpAny _ _ (Builtin.SmallTypes.ownedTupleIsFree (.ref e) >>= _) _ _ ⟨h₄, g, d, tk + 1, os⟩
  rw [hsz]
  clear hh₄ he₃ hs₃ he₂ hs₂ he₁ hs₁ hit₁ hsz h₃ h₂ h₁
  refine wpAny_bind ?_
  · unfold Builtin.SmallTypes.ownedTupleIsFree
    refine wpAny_bind (wpAny_field he₄ rfl (x := .none) rfl (wpAny_pure ?_))
    simp only [if_true]
    refine wpAny_bind (wpAny_rule ?_)
    refine wpAny_bind (wpAny_field he₄ rfl (x := old) rfl ?_)
    refine wpAny_bind (wpAny_setField_rec he₄ (by simp) fun h₅ he₅ hs₅ => ?_)
    replace hs₅ : Heap.SameBut e h₄ h₅ := hs₅
    replace he₅ : IsEnum h₅ e it ((i : Int) + 1) x := he₅
    show wpAny _ _ (Builtin.SmallTypes.ownedTupleHandOut (.ref e) (.ref hp.objs.size) >>= _) _ _ ⟨h₅, g, d, tk + 1, os⟩
    refine wpAny_bind ?_
    · unfold Builtin.SmallTypes.ownedTupleHandOut
      refine wpAny_bind (wpAny_setField_rec he₅ (by simp) fun h₆ he₆ hs₆ => ?_)
      replace hs₆ : Heap.SameBut e h₅ h₆ := hs₆
      replace he₆ : IsEnumOut h₆ e it ((i : Int) + 1) x hp.objs.size := he₆
      refine wpAny_setField_rec he₆ (by simp) fun h₇ he₇ hs₇ => ?_
      replace hs₇ : Heap.SameBut e h₆ h₇ := hs₇
      replace he₇ : IsEnumOut h₇ e it ((i : Int) + 1) x hp.objs.size := he₇
      refine wpAny_bind (wpAny_letGo (wpAny_pure ⟨_, rfl, hQ h₇ he₇ ?_ ?_ ?_ ?_⟩))
      · exact ((hit₄.extBut hs₅.extBut (Ne.symm hne)).extBut hs₆.extBut (Ne.symm hne)).extBut hs₇.extBut (Ne.symm hne)
      · exact hs₇.extBut _ _ (Nat.ne_of_gt hel) (hs₆.extBut _ _ (Nat.ne_of_gt hel) (hs₅.extBut _ _ (Nat.ne_of_gt hel) ht₄))
      · rw [hs₇.1, hs₆.1, hs₅.1, hz₄]
      · exact fun b o hbe hbi hb => hs₇.extBut b o hbe (hs₆.extBut b o hbe (hs₅.extBut b o hbe (hk₄ b o hbe hbi hb)))

theorem pyNext_enumT_item {e it l : Addr} {i : Nat} {items : Array Value} {x old : Value} {Q : Option Value → Shared → Prop}
    (he : IsEnum s.heap e it i old) (hit : s.heap.IsTupleIter it l i) (hl : s.heap.IsTuple l items) (hx : items[i]? = some x) (hne : e ≠ it)
    (hQ : ∀ h', IsEnumOut h' e it ((i : Int) + 1) x s.heap.objs.size → h'.IsTupleIter it l (i + 1) →
      h'.get? s.heap.objs.size = some { cls := .type "tuple", data := .seq #[.int i s.toks, x] } → h'.objs.size = s.heap.objs.size + 1 →
      (∀ b o, b ≠ e → b ≠ it → s.heap.get? b = some o → h'.get? b = some o) → Q (some (.ref s.heap.objs.size)) { s with heap := h', toks := s.toks + 1 }) :
    wpAny (model prog w) A (pyNext (.ref e)) Q E s := by
  have hT : s.TypeIs (.ref e) "enumerate" := ⟨_, he, rfl⟩
  unfold pyNext
  exact wpAny_bind (wpAny_attempt (wpAny_callSpecial?_slot (name := Str.ofString "__next__") hT F.slot_enumerate_next
    (wpAny_call_entry F.slot_enumerate_next hT F.entry_enumerate_next
      (enum_tup_next he hit hl hx hne fun h' a b c d k => wpAny_pure (hQ h' a b c d k)) (F.args_enumerate_next_1 _))))

theorem pyNext_enumT_end {e it l : Addr} {i : Nat} {items : Array Value} {old : Value} {Q : Option Value → Shared → Prop} (hh : A.handled = none)
    (he : IsEnum s.heap e it i old) (hit : s.heap.IsTupleIter it l i) (hl : s.heap.IsTuple l items) (hx : items[i]? = none)
    (hQ : ∀ h', Heap.ExtBut it s.heap h' → Q none { s with heap := h' }) : wpAny (model prog w) A (pyNext (.ref e)) Q E s := by
  have hT : s.TypeIs (.ref e) "enumerate" := ⟨_, he, rfl⟩
  unfold pyNext
  refine wpAny_bind (wpAny_attempt (wpAny_callSpecial?_slot (name := Str.ofString "__next__") hT F.slot_enumerate_next
    (wpAny_call_entry F.slot_enumerate_next hT F.entry_enumerate_next ?_ (F.args_enumerate_next_1 _))))
  show wpAny _ _ (field (.ref e) 2 >>= _) _ _ _
  refine wpAny_bind (wpAny_field he rfl (x := .ref it) rfl ?_)
  refine wpAny_bind (nextOf_tup_end hh hit hl hx fun h' x he' hx' => ?_)
  obtain ⟨o, ho, hc⟩ := hx'
  refine wpAny_bind (wpAny_isInstance (T := "StopIteration") (b := true) ⟨o, ho, hc⟩ isSubtype_stop ?_)
  exact wpAny_pure (hQ _ he')
end
end MiE
namespace L2
open PySem PySem.Spec PyProof.Rows MiE
def IteT (K : PySem.W.Frag) (a : Addr) : It :=
  ⟨fun i H => ∃ (xs : List V) (x : V), SqT K H a xs ∧ xs[i]? = some x, fun i H v H' => ∃ T x, v = .ref T ∧ H T = none ∧ H' = upd H T (.tup [.int (i : Nat), x]) ∧ ∀ xs, SqT K H a xs → xs[i]? = some x, fun i H => ∃ xs : List V, SqT K H a xs ∧ xs.length ≤ i⟩
theorem turn_enumT {P : Program} {w : World} {K : PySem.W.Frag} {elts : List Expr} {kk : Nat} {tpos : Pos} (a e it : Addr) :
    Turn P w K (.Tuple elts kk tpos) (IteT K a) [e, it] e (fun i h => (∃ old, IsEnum h e it ((i : Nat) : Int) old) ∧ h.IsTupleIter it a i ∧ e ≠ it) where
  mem := by simp
  obj := fun i h st b hb => by
    obtain ⟨⟨old, he⟩, ⟨o, ho, hc, hd⟩, _⟩ := st
    have e' : b = e ∨ b = it := by simpa using hb
    rcases e' with z | z
    · rw [z]; exact ⟨_, he, fun v q => nomatch q⟩
    · rw [z]; exact ⟨o, ho, fun v q => by rw [hd] at q; cases q⟩
  keep := fun i h h' st k => let ⟨⟨old, he⟩, hi, hne⟩ := st; ⟨⟨old, k e (by simp) _ he⟩, hi.at fun o q => k it (by simp) o q, hne⟩
  item := by
    intro X hP hw hK hc i pins s σ H E I hf st hg
    subst hP hw hK
    obtain ⟨⟨old, he⟩, hit, hne⟩ := st
    obtain ⟨xs, x, hq, hx⟩ := hg
    obtain ⟨its, rv, p, hz⟩ := I.tuple hq
    obtain ⟨u, hu, ru⟩ := rv.get hx
    have hel : e < s.heap.objs.size := Heap.lt_size he
    have hil : it < s.heap.objs.size := by obtain ⟨_, q, _⟩ := hit; exact Heap.lt_size q
    refine pyNext_enumT_item he hit (show s.heap.IsTuple a its.toArray from p) (x := u) (by simpa using hu) hne fun h' ho hit' hT hsz hk => ?_
    refine ⟨_, rfl, wpAny_letOwnedTupleGo_enum (s := { s with heap := h', toks := s.toks + 1 }) ho fun h'' he' sb => ?_⟩
    have hT2 : h''.get? s.heap.objs.size = some { cls := .type "tuple", data := .seq #[.int i s.toks, u] } := (sb.2 _ (Nat.ne_of_gt hel)).trans hT
    have new : ObjOk X.prog X.w (upd H s.heap.objs.size (.tup [.int (i : Nat), x])) h'' s.heap.objs.size (.tup [.int (i : Nat), x]) :=
      ⟨by show 2 ≤ sizeLine; decide, [.int i s.toks, u], .cons ⟨_, rfl⟩ (.cons ru .nil), ⟨_, hT2, rfl, _, rfl⟩⟩
    have I1 : Inv X pins σ (upd H s.heap.objs.size (.tup [.int (i : Nat), x])) { s with heap := h'', toks := s.toks + 1 } :=
      I.turnedNew (ch := [e, it]) (fun b ob hb q => (sb.2 b (fun z => hb (by simp [z]))).trans (hk b ob (fun z => hb (by simp [z])) (fun z => hb (by simp [z])) q)) hf (Nat.le_refl _) new
    refine ⟨.ref s.heap.objs.size, _, I1, rfl, ⟨_, x, rfl, I.hok.fresh (Nat.le_refl _), rfl, fun ys hy => by rw [I.tuple_inj hy hq]; exact hx⟩, ⟨⟨u, ?_⟩, hit'.at fun o q => (sb.2 it (Ne.symm hne)).trans q, hne⟩, fun b hb => ?_⟩
    · have e1 : ((i + 1 : Nat) : Int) = (i : Int) + 1 := by omega
      rw [e1]; exact he'
    · have hb' : b < s.heap.objs.size := by
        have e' : b = e ∨ b = it := by simpa using hb
        rcases e' with z | z
        · rw [z]; exact hel
        · rw [z]; exact hil
      rw [upd_ne (Nat.ne_of_lt hb')]
      exact (hf b hb).1
  done := by
    intro X hP hw hK hc i pins s σ H E I hf st hg
    subst hP hw hK
    obtain ⟨⟨old, he⟩, hit, hne⟩ := st
    obtain ⟨xs, hq, hx⟩ := hg
    obtain ⟨its, rv, p, hz⟩ := I.tuple hq
    obtain ⟨f0, f1, f2, f3, f4, f5⟩ := hf it (by simp)
    have hl := rv.length
    exact pyNext_enumT_end (I.ok.hd hc) he hit (show s.heap.IsTuple a its.toArray from p) (by simp; omega) fun h' eb => ⟨rfl, I.turned (t' := s.toks) (fun b o hb q => eb b o hb q) f0 f1 f3 f4 f5⟩
  self := fun A i s Q E st h => let ⟨⟨_, he⟩, _⟩ := st; wpAny_pyIter_enum he h
def iEnumT (K : PySem.W.Frag) (ta : TA) : TI := fun σ H R => ta σ H fun vs H1 => ∃ a xs, vs = [.ref a] ∧ SqT K H1 a xs ∧ R (IteT K a) H1
theorem pi_enumT {X : Cx} {e : Expr} {ta : TA} {p pos tpos : Pos} {elts : List Expr} {kk : Nat} (hg : Gl X "enumerate") (hm : X.mg "enumerate" = none) (ha : PA X [e] ta) (hs : starEach [e] X.env = [(false, eval e X.env)] := by rfl) :
    PI X (.Tuple elts kk tpos) (.Call (.Name "enumerate" p) [e] [] pos) (iEnumT X.K ta) := by
  refine ⟨fun pins s σ H R I h => ?_⟩
  refine Call_ (ld_blt I hg hm boot_enumerate (PyProof.Rows.callWith_type1 (thn (ha.run pos pins s σ H _ I h) fun us s1 ⟨vs, H1, I1, r1, q1⟩ => ?_) hs rfl))
  obtain ⟨a, xs, ex, hq, q⟩ := q1
  subst ex
  cases r1 with
  | cons r rr =>
    cases rr
    cases r
    obtain ⟨its, rv, p', hz⟩ := I1.tuple hq
    refine call_enumerate_tup (show s1.heap.IsTuple a its.toArray from p') fun h' he hit hsz hk => wpAny_pyIter_enum he ?_
    have I2 : Inv X pins σ H1 { s1 with heap := h' } := I1.kept (t' := s1.toks) hk
    refine ⟨s1.heap.objs.size + 1, [s1.heap.objs.size + 1, s1.heap.objs.size], _, _, H1, rfl, I2, turn_enumT a (s1.heap.objs.size + 1) s1.heap.objs.size, ⟨⟨.none, he⟩, hit, Nat.succ_ne_self _⟩, fun b hb => ?_, q⟩
    have e' : b = s1.heap.objs.size + 1 ∨ b = s1.heap.objs.size := by simpa using hb
    have hle : s1.heap.objs.size ≤ b := by
      rcases e' with z | z
      · rw [z]; exact Nat.le_add_right _ _
      · rw [z]; exact Nat.le_refl _
    exact I1.fpOk hle (I1.hok.fresh hle)
end L2
namespace Mi
open PySem PySem.Spec PyProof.Rows L2
section
variable {X : Cx} {G : Gs} {W : WX} {e : Expr} {mr : MA} {p2 pos tpos : Pos} {elts : List Expr} {kk : Nat}
def enumL (n : Nat) : List D → List D
  | [] => []
  | d :: r => .tup [.int (n : Nat), d] :: enumL (n + 1) r
theorem enumL_get : ∀ {ds : List D} {n i : Nat}, (enumL n ds)[i]? = ds[i]?.map fun d => D.tup [.int ((n + i : Nat) : Int), d]
  | [], n, i => by simp [enumL]
  | d :: r, n, 0 => by simp [enumL]
  | d :: r, n, i + 1 => by
    have := enumL_get (ds := r) (n := n + 1) (i := i)
    simp only [enumL, List.getElem?_cons_succ, this]
    congr 2
    funext d
    congr 4
    omega
theorem jok_enumT {a : Addr} {ds : List D} {xs : List V} {β₀ : List Addr} {H₀ : Hp} (q : SqT G.K H₀ a xs) (m : RDs G.K β₀ H₀ xs ds) : JOk G (.vals (enumL 0 ds)) (IteT G.K a) β₀ H₀ := by
  intro β S H i ex R
  have q' := sqT_ex ex.toEw q
  have m' := m.mono ex.toEw
  refine ⟨fun h => ?_, fun d h => ?_⟩
  · have h : (enumL 0 ds)[i]? = none := by simpa [IT.at] using h
    rw [enumL_get] at h
    have h : ds[i]? = none := by simpa using h
    exact ⟨xs, q', by rw [m'.length]; exact List.getElem?_eq_none_iff.mp h⟩
  · have h : (enumL 0 ds)[i]? = some d := by simpa [IT.at] using h
    rw [enumL_get] at h
    cases hq : ds[i]? with
    | none => rw [hq] at h; cases h
    | some z =>
      rw [hq] at h
      obtain ⟨v, h1, h2⟩ := m'.get hq
      refine ⟨⟨xs, v, q', h1⟩, fun x H' y => ?_⟩
      obtain ⟨T, y, rfl, hT, rfl, hy⟩ := y
      have hv := hy xs q'
      rw [h1] at hv
      cases hv
      have := Option.some.inj h
      subst this
      rw [Nat.zero_add]
      exact ⟨Ex.fresh hT, R.fresh hT, .tup (.inl (.inl upd_same)) (.cons (.int _) (.cons (h2.mono (Ex.fresh hT).toEw) .nil))⟩
def tupO : D → Option (List D)
  | .tup ds => some ds
  | _ => none
def mEnumT (ma : MA) : MI := fun ρ S => (ma ρ S).bind fun ds S1 => match ds with
  | [.tup xs] => .ok (.vals (enumL 0 xs)) S1
  | _ => .stuck
theorem ci_enumT (hK : X.K = G.K) (hg : Gl X "enumerate") (hm : X.mg "enumerate" = none) (ha : PA X [e] (tA G W mr)) (hs : starEach [e] X.env = [(false, eval e X.env)] := by rfl) :
    PI X (.Tuple elts kk tpos) (.Call (.Name "enumerate" p2) [e] [] pos) (iM G W (mEnumT mr)) := by
  refine pi_imp (pi_enumT hg hm ha hs) fun σ H R' h => ?_
  obtain ⟨β, ρ, S, R, V, h⟩ := h
  refine ⟨β, ρ, S, R, V, h.bind.imp fun ds S1 β1 H1 e1 R1 h1 xs rs => ?_⟩
  split at h1
  · rename_i l
    obtain ⟨v, rfl, rv⟩ := rs.one
    cases rv with
    | tup q m =>
      rename_i a ys
      rw [hK]
      exact ⟨a, ys, rfl, q, h1 β1 H1 Ex.refl R1 _ (jok_enumT q m)⟩
  · exact h1.elim
end
end Mi
namespace Mi
open PySem PySem.Spec PyProof.Rows L2
/-! ### sorted(d) of texts -/
def leS (a b : Str) : Bool := !ltCps b.cps.toList a.cps.toList
theorem leS_iff {a b : Str} : leS a b = true ↔ a.cps.toList ≤ b.cps.toList := by
  unfold leS
  rw [ltCps_eq]
  simp [List.not_lt]
theorem leS_trans {a b c : Str} (h : leS a b = true) (h' : leS b c = true) : leS a c = true := leS_iff.mpr (List.le_trans (leS_iff.mp h) (leS_iff.mp h'))
theorem leS_antisymm {a b : Str} (h : leS a b = true) (h' : leS b a = true) : a = b := by
  have e := List.le_antisymm (leS_iff.mp h) (leS_iff.mp h')
  obtain ⟨⟨x⟩⟩ := a
  obtain ⟨⟨y⟩⟩ := b
  simp at e
  rw [e]
theorem leS_total (a b : Str) : leS a b = true ∨ leS b a = true := by
  rcases List.le_total a.cps.toList b.cps.toList with h | h
  · exact .inl (leS_iff.mpr h)
  · exact .inr (leS_iff.mpr h)
def insS (x : Str) : List Str → List Str
  | [] => [x]
  | y :: r => if leS x y = true then x :: y :: r else y :: insS x r
def srtS : List Str → List Str
  | [] => []
  | x :: r => insS x (srtS r)
def SrtP (l : List Str) : Prop := l.Pairwise fun a b => leS a b = true
theorem insS_perm (x : Str) : ∀ l : List Str, (insS x l).Perm (x :: l)
  | [] => .refl _
  | y :: r => by
    unfold insS
    split
    · exact .refl _
    · exact ((insS_perm x r).cons y).trans (.swap x y r)
theorem srtS_perm : ∀ l : List Str, (srtS l).Perm l
  | [] => .refl _
  | x :: r => (insS_perm x (srtS r)).trans ((srtS_perm r).cons x)
theorem insS_sorted {x : Str} : ∀ {l : List Str}, SrtP l → SrtP (insS x l)
  | [], _ => List.pairwise_singleton _ _
  | y :: r, h => by
    have h1 := List.pairwise_cons.mp h
    unfold insS
    split
    · rename_i hxy
      refine List.pairwise_cons.mpr ⟨fun z hz => ?_, h⟩
      rcases List.mem_cons.mp hz with rfl | hz
      · exact hxy
      · exact leS_trans hxy (h1.1 z hz)
    · rename_i hxy
      refine List.pairwise_cons.mpr ⟨fun z hz => ?_, insS_sorted h1.2⟩
      rcases List.mem_cons.mp ((insS_perm x r).mem_iff.mp hz) with rfl | hz
      · exact (leS_total z y).resolve_left hxy
      · exact h1.1 z hz
theorem srtS_sorted : ∀ l : List Str, SrtP (srtS l)
  | [] => .nil
  | x :: r => insS_sorted (srtS_sorted r)
theorem rising_le : ∀ {l : List Str} {p : Str}, risingS p l = true → (∀ x ∈ l, leS p x = true) ∧ SrtP l
  | [], p, _ => ⟨fun x h => (by cases h), .nil⟩
  | y :: r, p, h => by
    unfold risingS at h
    rw [Bool.and_eq_true] at h
    obtain ⟨h1, h2⟩ := h
    obtain ⟨i1, i2⟩ := rising_le h2
    refine ⟨fun x hx => ?_, List.pairwise_cons.mpr ⟨i1, i2⟩⟩
    rcases List.mem_cons.mp hx with rfl | hx
    · exact h1
    · exact leS_trans h1 (i1 x hx)
theorem sorted_pw {l : List Str} (h : sortedS l = true) : SrtP l := by
  cases l with
  | nil => exact .nil
  | cons x r => exact List.pairwise_cons.mpr (rising_le h)
theorem srt_unique : ∀ {l m : List Str}, l.Perm m → SrtP l → SrtP m → l = m
  | [], m, h, _, _ => (List.Perm.nil_eq h)
  | x :: l, [], h, _, _ => by simpa using h.length_eq
  | x :: l, y :: m, h, hl, hm => by
    have h1 := List.pairwise_cons.mp hl
    have h2 := List.pairwise_cons.mp hm
    have hxy : x = y := by
      rcases List.mem_cons.mp (h.mem_iff.mp List.mem_cons_self) with e | e
      · exact e
      · rcases List.mem_cons.mp (h.mem_iff.mpr List.mem_cons_self) with e' | e'
        · exact e'.symm
        · exact leS_antisymm (h1.1 y e') (h2.1 x e)
    subst hxy
    rw [srt_unique (List.Perm.cons_inv h) h1.2 h2.2]
theorem srt_is {ks ys : List Str} (h : ys.Perm ks) (hs : sortedS ys = true) : ys = srtS ks := srt_unique (h.trans (srtS_perm ks).symm) (sorted_pw hs) (srtS_sorted ks)
def keyStrs : List (Key × D) → Option (List Str)
  | [] => some []
  | (.inr x, _) :: r => (keyStrs r).map (x :: ·)
  | _ => none
theorem keyStrs_rel {K : PySem.W.Frag} {β : List Addr} {H : Hp} {ys : List (Key × L2.V)} {kvs : List (Key × D)} (m : RPs K β H ys kvs) : ∀ {ks : List Str}, keyStrs kvs = some ks → ys.map (·.1) = ks.map Sum.inr ∧ ks.length = ys.length := by
  unfold RPs at m
  induction m with
  | nil => intro ks h; cases h; exact ⟨rfl, rfl⟩
  | @cons p q ps qs a b ih =>
    intro ks h
    obtain ⟨k, d⟩ := q
    cases k with
    | inl i => cases h
    | inr x =>
      unfold keyStrs at h
      cases hr : keyStrs qs with
      | none => rw [hr] at h; cases h
      | some l =>
        rw [hr] at h
        cases h
        obtain ⟨i1, i2⟩ := ih hr
        exact ⟨by rw [List.map_cons, List.map_cons, i1, a.1], by simp [i2]⟩
def sortedD : List D → So → Rs D
  | [d], S => match dctO S d with
    | some kvs => match keyStrs kvs with
      | some ks => if ks.length < 64 then .ok (.ref S.length) (S ++ [.lst ((srtS ks).map D.str)]) else .stuck
      | none => .stuck
    | none => .stuck
  | _, _ => .stuck
theorem rds_strs {K : PySem.W.Frag} {β : List Addr} {H : Hp} : ∀ (l : List Str), RDs K β H (l.map L2.V.str) (l.map D.str)
  | [] => .nil
  | x :: r => .cons (.str x) (rds_strs r)
theorem cm_sortedD {G : Gs} : CallM G sortedD (fun xs H Q => ∃ (a : Addr) (kvs : List (Key × L2.V)) (ks : List Str), xs = [.ref a] ∧ Rd H a (.dK kvs) ∧ kvs.map (·.1) = ks.map Sum.inr ∧ ks.length < 64 ∧
    ∀ ys p, ys.Perm ks → sortedS ys = true → H p = none → Q (.ref p) (upd H p (.lst (ys.map L2.V.str)))) := by
  intro W β S H xs ds Q R rs h
  unfold sortedD at h
  split at h
  · rename_i d
    split at h
    · rename_i kvs hk
      obtain ⟨v, rfl, rv⟩ := rs.one
      obtain ⟨a, ys, rfl, q1, q2⟩ := dct_rel R rv hk
      split at h
      · rename_i ks hks
        split at h
        · rename_i hl
          refine ⟨a, ys, ks, rfl, q1, (keyStrs_rel q2 hks).1, hl, fun zs p hp hs hn => ?_⟩
          rw [srt_is hp hs]
          have e' := Ex.new (β := β) (ho := HO.lst ((srtS ks).map L2.V.str)) hn
          exact h _ _ e' (R.new hn ⟨_, upd_same, rds_strs _⟩) _ (.ref (last_of R.len))
        · exact h.elim
      · exact h.elim
    · exact h.elim
  · exact h.elim
/-! ### {k: v for .. in ..} -/
def dcGo (it : IT) (bn : Bnd) (mt : MT) (mk mv : ME) (n : Nat) : Nat → Nat → Ro → So → Rs D
  | 0, i, ρ, S => match it.at S i with
    | some none => .ok (.ref n) S
    | _ => .stuck
  | k + 1, i, ρ, S => match it.at S i with
    | some none => .ok (.ref n) S
    | some (some d) => match bn d ρ with
      | none => .stuck
      | some ρ1 => match mt ρ1 S with
        | .ok c S1 => if c then (match mk ρ1 S1 with
          | .ok y S2 => (match mv ρ1 S2 with
            | .ok z S3 => match keyD y, S3[n]? with
              | some ky, some (.dct kvs) => if kvs.length < lim then dcGo it bn mt mk mv n k (i + 1) ρ (S3.set n (.dct (putD kvs ky z))) else .stuck
              | _, _ => .stuck
            | _ => .stuck)
          | _ => .stuck) else dcGo it bn mt mk mv n k (i + 1) ρ S1
        | _ => .stuck
    | none => .stuck
def mDc (mi : MI) (bn : Bnd) (mt : MT) (mk mv : ME) (vs : List Nat) : ME := fun ρ S => (mi ρ S).bind fun it S1 => dcGo it bn mt mk mv S1.length (it.len (S1 ++ [.dct []])) 0 (wipeR ρ vs) (S1 ++ [.dct []])
section
variable {X : Cx} {G : Gs} {W : WX} {k : Nat} {a b e o kx vx : Expr} {ifs : List Expr} {m mk mv mo : ME} {mt : MT} {mi : MI} {mr : MA} {pos p2 apos : Pos} {tg iter : Expr} {scope : Scope} {own : List (Str × Nat)} {bn : Bnd} {g : TG}
theorem sM_dc {vs : List Nat} (hf : ∀ i ∈ vs, noFx G i) (hm : BindC G vs bn g) {σ : Sl} {H : Hp} {Q : VK} (h : tM G W (mDc mi bn mt mk mv vs) σ H Q) : tDc (iM G W mi) g (tT G W0 mt) (tM G W0 mk) (tM G W0 mv) vs σ H Q := by
  obtain ⟨β, ρ, S, R, V, h⟩ := h
  refine ⟨β, ρ, S, R, V, h.bind.imp fun it S1 β1 H1 e1 R1 h1 J hJ D hD => ?_⟩
  have V1 := (V.mono e1.toEw).wipe hf
  have eN := Ex.new (β := β1) (H := H1) (ho := .dK []) hD
  have RN : Rl G.K G.cl (β1 ++ [D]) (S1 ++ [.dct []]) (upd H1 D (.dK [])) := R1.new hD ⟨[], upd_same, .nil⟩
  refine ⟨fun i mm H => ∃ β S, Ex (β1 ++ [D]) (upd H1 D (.dK [])) β H ∧ Rl G.K G.cl β S H ∧ Gd G W β H (dcGo it bn mt mk mv S1.length mm i (wipeR ρ vs) S) (kV G Q), ⟨_, β1 ++ [D], _, Ex.refl, RN, h1.mono eN⟩, ?_⟩
  rintro i mm H' ⟨β2, S2, e2, R2, h2⟩
  have e12 := eN.trans e2
  obtain ⟨j1, j2⟩ := hJ β2 S2 H' i e12 R2
  have hn2 : β2[S1.length]? = some D := e2.pre _ _ (last_of R1.len)
  have V2 := V1.mono e12.toEw
  cases mm with
  | zero =>
    unfold dcGo at h2
    split at h2
    · rename_i hz
      exact .inl ⟨j1 hz, h2 β2 H' Ex.refl R2 _ (.ref hn2)⟩
    · exact h2.elim
  | succ mm =>
    unfold dcGo at h2
    split at h2
    · rename_i hz
      exact .inl ⟨j1 hz, h2 β2 H' Ex.refl R2 _ (.ref hn2)⟩
    · rename_i d hd
      obtain ⟨go, yl⟩ := j2 d hd
      split at h2
      · exact h2.elim
      · rename_i ρ3 hb3
        refine .inr ⟨go, fun H => ∃ β S, Ex (β1 ++ [D]) (upd H1 D (.dK [])) β H ∧ Rl G.K G.cl β S H ∧ Gd G W β H (dcGo it bn mt mk mv S1.length mm (i + 1) (wipeR ρ vs) S) (kV G Q), fun H' q => ⟨mm, Nat.lt_succ_self mm, q⟩, fun x H3 y => ?_⟩
        obtain ⟨e3, R3, rd⟩ := yl x H3 y
        refine hm β2 S2 H3 _ _ ρ3 x d _ R3 (V2.mono e3.toEw) rd hb3 fun σ4 V4 hw => ⟨hw.trans ?_, ?_⟩
        · clear hw h2 V2
          have key : ∀ (us ws : List Nat) (σ : Sl), (∀ i ∈ ws, i ∈ us) → wipe (wipe σ ws) us = wipe σ us := by
            intro us ws
            induction ws with
            | nil => intro σ _; rfl
            | cons w ws ih =>
              intro σ hw
              show wipe ((wipe σ ws).set w none) us = wipe σ us
              rw [wipe_set (hw w List.mem_cons_self)]
              exact ih σ fun i hi => hw i (List.mem_cons_of_mem _ hi)
          exact key vs vs σ fun i hi => hi
        · split at h2
          · rename_i c S4 ht
            refine ⟨β2, ρ3, S2, R3, V4, Gd0.ok ⟨c, S4, ht, fun β5 H5 e5 R5 => ?_⟩⟩
            cases c with
            | false =>
              unfold kT
              simp only [Bool.false_eq_true, if_false] at h2 ⊢
              exact ⟨β5, S4, e2.trans (e3.trans e5), R5, h2.mono (e3.trans e5)⟩
            | true =>
              unfold kT
              simp only [if_true] at h2 ⊢
              split at h2
              · rename_i y S6 hy
                refine ⟨β5, ρ3, S4, R5, V4.mono e5.toEw, Gd0.ok ⟨y, S6, hy, fun β6 H6 e6 R6 v rv => ?_⟩⟩
                split at h2
                · rename_i z S7 hz
                  refine ⟨β6, ρ3, S6, R6, V4.mono (e5.trans e6).toEw, Gd0.ok ⟨z, S7, hz, fun β7 H7 e7 R7 u ru => ?_⟩⟩
                  split at h2
                  · rename_i ky kvs hk hacc
                    have hn7 : β7[S1.length]? = some D := (e3.trans (e5.trans (e6.trans e7))).pre _ _ hn2
                    obtain ⟨xs, q1, q2⟩ := R7.get hacc hn7
                    split at h2
                    · rename_i hl
                      have := rv.key hk
                      subst this
                      obtain ⟨R8, e8⟩ := R7.upd (ho := .dK (putK xs ky u)) (o' := .dct (putD kvs ky z)) hn7 (fun o u z => by rw [q1] at z; cases z) fun e' => ⟨_, upd_same, (put_rel q2 ky ru).mono e'.toEw⟩
                      exact ⟨xs, ky, rfl, q1, by rw [q2.length]; exact Nat.lt_trans hl lim_line, β7, _, e2.trans (e3.trans (e5.trans (e6.trans (e7.trans e8)))), R8, h2.mono (e3.trans (e5.trans (e6.trans (e7.trans e8))))⟩
                    · exact h2.elim
                  · exact h2.elim
                · exact h2.elim
              · exact h2.elim
          · exact h2.elim
    · exact h2.elim
theorem ce_dc (C : Cn X G W k) (hf : ∀ i ∈ own.map (·.2), noFx G i) (hm : BindC G (own.map (·.2)) bn g) (ok : BlkOk X.N X.env.scope scope own) (hi : PI X tg iter (iM G W mi))
    (hg : ∀ (s : Shared) (H : Hp) (C : Addr) (cl : List (Str × Addr)) (fp : List Addr), PG (X.blk s H scope (compEnvC scope cl C X.env) fp) tg g)
    (ht : ∀ (s : Shared) (H : Hp) (C : Addr) (cl : List (Str × Addr)) (fp : List Addr), Cn (X.blk s H scope (compEnvC scope cl C X.env) fp) G W0 k → PTs (X.blk s H scope (compEnvC scope cl C X.env) fp) ifs (tT G W0 mt))
    (hk : ∀ (s : Shared) (H : Hp) (C : Addr) (cl : List (Str × Addr)) (fp : List Addr), Cn (X.blk s H scope (compEnvC scope cl C X.env) fp) G W0 k → PE (X.blk s H scope (compEnvC scope cl C X.env) fp) kx (tM G W0 mk))
    (he : ∀ (s : Shared) (H : Hp) (C : Addr) (cl : List (Str × Addr)) (fp : List Addr), Cn (X.blk s H scope (compEnvC scope cl C X.env) fp) G W0 k → PE (X.blk s H scope (compEnvC scope cl C X.env) fp) vx (tM G W0 mv)) (hs : ∀ x, foldedSetIterable iter X.env x = pure x := by intro _; rfl) :
    PE X (.DictComp kx vx [⟨tg, iter, ifs, 0⟩] scope pos) (tM G W (mDc mi bn mt mk mv (own.map (·.2)))) :=
  pe_imp (pe_dc C.calm C.nd hi ok hg (fun s H c cl fp => ht s H c cl fp (C.blk _ _ _ _ _)) (fun s H c cl fp => hk s H c cl fp (C.blk _ _ _ _ _)) (fun s H c cl fp => he s H c cl fp (C.blk _ _ _ _ _)) hs) fun _ _ _ h => sM_dc hf hm h
end
end Mi
namespace MiE
open PySem PySem.Spec PyProof.Rows L2
/-! ### tuple * 0, tuple * 1 -/
theorem tupMul_one (l : Addr) (items : Array Value) (n : Nat) (dd : Option Addr) (sl : Array (Option Value)) (u : Tok) :
    Meets (Builtin.«tuple.__mul__» ⟨[.ref l, .int 1 u], []⟩) (fun _ R s => s.heap.get? l = some { cls := .type "tuple", dict := dd, data := .seq items n, slots := sl } ∧ R (.ok (.ret (.ref l))) s) :=
  .of_wp fun prog w A R s h => by
    obtain ⟨hp, g, d, tk, os⟩ := s
    obtain ⟨hl, h⟩ := h
    have f1 := AutoSeq1.idx_int
    have c0 : (decide ((1 : Int) < -(2 ^ 63)) || decide ((1 : Int) ≥ 2 ^ 63)) = false := by decide
    have c1 : (items.isEmpty || (1 : Int) == 1) = true := by simp
    wp_walk using wpAny_loadPart' hl
    repeat (first
      | (refine wpAny_ite_false (decide_eq_false (by rw [c0]; exact Bool.false_ne_true)) ?_; wp_walk using wpAny_loadPart' hl)
      | (refine wpAny_ite_true (decide_eq_true (by rw [c1])) ?_; wp_walk using wpAny_loadPart' hl))
    exact ⟨_, rfl, h⟩
theorem tupMul_none (l : Addr) (items : Array Value) (n : Nat) (dd : Option Addr) (sl : Array (Option Value)) (u : Tok) (hi : items.isEmpty = false) :
    Meets (Builtin.«tuple.__mul__» ⟨[.ref l, .int 0 u], []⟩) (fun _ R s => s.heap.get? l = some { cls := .type "tuple", dict := dd, data := .seq items n, slots := sl } ∧ R (.ok (.ret (Value.ref s.heap.objs.size))) { s with heap := s.heap.push { cls := Value.type "tuple", data := Data.seq #[] }, toks := s.toks }) :=
  .of_wp fun prog w A R s h => by
    obtain ⟨hp, g, d, tk, os⟩ := s
    obtain ⟨hl, h⟩ := h
    have f1 := AutoSeq1.idx_int
    have c0 : (decide ((0 : Int) < -(2 ^ 63)) || decide ((0 : Int) ≥ 2 ^ 63)) = false := by decide
    have c1 : (items.isEmpty || (0 : Int) == 1) = false := by rw [hi]; rfl
    have c2 : (decide ((0 : Int) ≤ 0) || items.isEmpty) = true := by simp
    wp_walk using wpAny_loadPart' hl
    repeat (first
      | (refine wpAny_ite_false (decide_eq_false (by rw [c0]; exact Bool.false_ne_true)) ?_; wp_walk using wpAny_loadPart' hl)
      | (refine wpAny_ite_false (decide_eq_false (by rw [c1]; exact Bool.false_ne_true)) ?_; wp_walk using wpAny_loadPart' hl)
      | (refine wpAny_ite_true (decide_eq_true (by rw [c2])) ?_; wp_walk using wpAny_loadPart' hl))
    exact ⟨_, rfl, h⟩
end MiE
namespace L2
open PySem PySem.Spec PyProof.Rows MiE
def rRep01 (K : PySem.W.Frag) : R2 := fun x y H Q => ∃ l xs, x = .ref l ∧ SqT K H l xs ∧ xs ≠ [] ∧ ((y = .int 1 ∧ Q (.ref l) H) ∨ (y = .int 0 ∧ ∀ p, H p = none → Q (.ref p) (upd H p (.tup []))))
theorem op_rep01 {X : Cx} : OpR X (binaryOp .Mult) (rRep01 X.K) := by
  intro pins s σ H x y v u Q I rx ry h
  obtain ⟨l, xs, rfl, hT, hne, h⟩ := h
  cases rx
  obtain ⟨its, r, ⟨⟨cls, dd, data, sl⟩, ho, hc, n, hd⟩, hs⟩ := I.tuple hT
  simp only at hc hd
  subst hc hd
  have hle : its.length = xs.length := r.length.symm
  have hn : its ≠ [] := fun e => hne (by
    rw [e] at hle
    exact List.eq_nil_of_length_eq_zero hle.symm)
  have hi : its.toArray.isEmpty = false := by
    cases its with
    | nil => exact absurd rfl hn
    | cons a b => rfl
  rcases h with ⟨rfl, q⟩ | ⟨rfl, q⟩
  · obtain ⟨t, rfl⟩ := ry
    refine wpAny_binaryOp_repeat_ref (T := "tuple") (U := "int") (by decide) ⟨_, ho, rfl⟩ (fun s' => typeIs_int s' 1 t) noFill_tuple_mul F.fills_int_mul F.slot_int_rmul repeat_tuple F.slot_int_index.lookup
      (call_meets F.slot_int_rmul (typeIs_int s 1 t) F.entry_int_rmul (F.args_int_rmul_2 _ _) (int_rmul_tuple 1 t l its.toArray n dd sl)
        ⟨ho, rfl, ⟨_, ho, rfl⟩, call_meets F.slot_tuple_mul ⟨_, ho, rfl⟩ F.entry_tuple_mul (F.args_tuple_mul_2 _ _) (tupMul_one l its.toArray n dd sl t) ⟨ho, ?_⟩⟩)
    exact ⟨.ref l, H, I, rfl, q⟩
  · obtain ⟨t, rfl⟩ := ry
    refine wpAny_binaryOp_repeat_ref (T := "tuple") (U := "int") (by decide) ⟨_, ho, rfl⟩ (fun s' => typeIs_int s' 0 t) noFill_tuple_mul F.fills_int_mul F.slot_int_rmul repeat_tuple F.slot_int_index.lookup
      (call_meets F.slot_int_rmul (typeIs_int s 0 t) F.entry_int_rmul (F.args_int_rmul_2 _ _) (int_rmul_tuple 0 t l its.toArray n dd sl)
        ⟨ho, rfl, ⟨_, ho, rfl⟩, call_meets F.slot_tuple_mul ⟨_, ho, rfl⟩ F.entry_tuple_mul (F.args_tuple_mul_2 _ _) (tupMul_none l its.toArray n dd sl t hi) ⟨ho, ?_⟩⟩)
    exact ⟨.ref s.heap.objs.size, upd H s.heap.objs.size (.tup []), I.laid (t' := s.toks) (fun b u e => Heap.get?_push_of_some _ e) (Nat.le_refl _)
      (show ObjOk X.prog X.w _ _ _ (.tup []) from ⟨Nat.zero_le _, [], .nil, ⟨_, Heap.get?_push_size _ rfl, rfl, _, rfl⟩⟩), rfl, q _ (I.hok.fresh (Nat.le_refl _))⟩
end L2
namespace Mi
open PySem PySem.Spec PyProof.Rows L2
/-- a * b: ints; a tuple that is not empty, none or more times -/
def mulTD (d e : D) (S : So) : Rs D := match d, e with
  | .tup xs, .int 0 => if xs ≠ [] then .ok (.tup []) S else .stuck
  | .tup xs, .int 1 => if xs ≠ [] then .ok (.tup xs) S else .stuck
  | _, _ => mulD d e S
def rMulT (K : PySem.W.Frag) : R2 := fun x y H Q => rRep01 K x y H Q ∨ (rI CMul (fun i j => .int (i * j)) x y H Q ∨ rRepT K x y H Q)
theorem oo_mulT {X : Cx} : OpR X (binaryOp .Mult) (rMulT X.K) := op_rep01.or oo_mul
theorem om_mulT {G : Gs} : OpM G mulTD (rMulT G.K) := by
  intro W β S H x y d e Q R rx ry h
  unfold mulTD at h
  split at h
  · rename_i xs
    split at h
    · rename_i hne
      cases ry
      cases rx with
      | tup q m =>
        refine .inl ⟨_, _, rfl, q, fun z => ?_, .inr ⟨rfl, fun p hp => ?_⟩⟩
        · subst z
          cases m
          exact hne rfl
        · exact h _ _ (Ex.fresh hp) (R.fresh hp) _ (.tup (.inl (.inl upd_same)) .nil)
    · exact h.elim
  · rename_i xs
    split at h
    · rename_i hne
      cases ry
      cases rx with
      | tup q m =>
        refine .inl ⟨_, _, rfl, q, fun z => ?_, .inl ⟨rfl, ?_⟩⟩
        · subst z
          cases m
          exact hne rfl
        · exact h β H Ex.refl R _ (.tup q m)
    · exact h.elim
  · exact .inr (om_mul W β S H x y d e Q R rx ry h)
end Mi
namespace Mi
open PySem PySem.Spec PyProof.Rows L2
/-! ### e.f, a property of an own class -/
def mProp (C : Str) (F : MF) (mo : ME) : ME := fun ρ S => (mo ρ S).bind fun d S1 => match d with
  | .ref j => match S1[j]? with
    | some (.ins C' fs) => if C' = C then (match F [d] S1 with
      | .ok d S2 => .ok d S2
      | _ => .stuck) else .stuck
    | _ => .stuck
  | _ => .stuck
section
variable {X : Cx} {G : Gs} {W : WX} {k : Nat} {o : Expr} {mo : ME} {pos : Pos} {f C : Str}
theorem ce_prop {Ca p g : Addr} {fd : FuncData} {ps : List Str} {j : Nat} {F : MF} (ho : PE X o (tM G W mo)) (Fn : FnOk X.prog X.w X.K X.mg X.base (L2.CX X.prog X.w) j g fd ps (spM G.K G.cl 1 F)) (Cc : Cn X G W k) (hj : j + 1 ≤ k) (hcl : G.cl C = some Ca) (c : Cls X.K Ca) (hp : PropOf X.K Ca f p g)
    (hb : Binds X.K fd ps []) (hab : attributeBase o f X.env (eval o X.env) = eval o X.env := by rfl) : PE X (.Attribute o f pos) (tM G W (mProp C F mo)) := by
  refine pe_imp (pe_prop (E := fun _ _ _ => False) ho c hp Fn (Cc.hr.mono hj) hb .nil (fun pins σ H s e s' _ q => ?_) hab) fun σ H Q h => ?_
  · obtain ⟨_, _, _, _, _, _, _, _, _, _, _, _, z⟩ := q
    exact z.elim
  · obtain ⟨β, ρ, S, R, V, h⟩ := h
    refine ⟨β, ρ, S, R, V, h.bind.imp fun d S1 β1 H1 e1 R1 h1 x rx => ?_⟩
    split at h1
    · rename_i i
      cases rx with
      | ref hn =>
        split at h1
        · rename_i C' fs hs
          obtain ⟨Cb, dx, ys, hc, q1, q2⟩ := R1.get hs hn
          split at h1
          · rename_i hcc
            have hce : Cb = Ca := by
              rw [hcc, hcl] at hc
              exact (Option.some.inj hc).symm
            subst hce
            refine ⟨_, dx, ys, rfl, q1, β1, [.ref i], S1, R1, .cons (.ref hn) .nil, rfl, ?_⟩
            cases hm : F [.ref i] S1 with
            | stuck => rw [hm] at h1; exact h1.elim
            | ex c r S2 => rw [hm] at h1; exact h1.elim
            | ok d S2 =>
              rw [hm] at h1
              exact h1
          · exact h1.elim
        · exact h1.elim
    · exact h1.elim
end
end Mi
namespace Mi
open PySem PySem.Spec PyProof.Rows L2
/-! ### one of two mirrors, by what stands there -/
/-- the dict that an expression tells of, if it is one -/
def mdOf (m : ME) : MD := fun ρ S => match m ρ S with
  | .ok (.ref n) _ => (match S[n]? with
    | some (.dct _) => some n
    | _ => none)
  | _ => none
def mAltS (md : MD) (s1 s2 : MS) : MS := fun ρ S => match md ρ S with
  | some _ => s1 ρ S
  | none => s2 ρ S
def mAltE (md : MD) (m1 m2 : ME) : ME := fun ρ S => match md ρ S with
  | some _ => m1 ρ S
  | none => m2 ρ S
section
variable {X : Cx} {G : Gs} {W : WX} {e : Expr} {st : Stmt} {m1 m2 : ME} {s1 s2 : MS} {md : MD}
theorem cs_alt (h1 : PS X st (sM G W s1)) (h2 : PS X st (sM G W s2)) : PS X st (sM G W (mAltS md s1 s2)) := ⟨fun pins s σ H D I h => by
  obtain ⟨β, ρ, S, R, V, h⟩ := h
  unfold mAltS at h
  split at h
  · exact h1.run pins s σ H D I ⟨β, ρ, S, R, V, h⟩
  · exact h2.run pins s σ H D I ⟨β, ρ, S, R, V, h⟩⟩
theorem ce_alt (h1 : PE X e (tM G W m1)) (h2 : PE X e (tM G W m2)) : PE X e (tM G W (mAltE md m1 m2)) := ⟨fun pins s σ H Q I h => by
  obtain ⟨β, ρ, S, R, V, h⟩ := h
  unfold mAltE at h
  split at h
  · exact h1.run pins s σ H Q I ⟨β, ρ, S, R, V, h⟩
  · exact h2.run pins s σ H Q I ⟨β, ρ, S, R, V, h⟩⟩
/-- a def of which nothing is promised: where the fuel is out -/
theorem fn_stuck {P : Program} {w : World} {K : PySem.W.Frag} {mg : Str → Option Value} {base : Heap} {CX : CXT} {cl : Str → Option Addr} {k n : Nat} {f : Addr} {fd : FuncData} {ps : List Str} : FnOk P w K mg base CX k f fd ps (spM K cl n fun _ _ => .stuck) :=
  ⟨fun vs H Q E h => by
    obtain ⟨β, ds, S, R, rs, hl, h⟩ := h
    exact h.elim, fun A outer s H args us vs Q E hr he hb hv h => by
    obtain ⟨β, ds, S, R, rs, hl, h⟩ := h
    exact h.elim⟩
end
end Mi
namespace Mi
open PySem PySem.Spec PyProof.Rows L2
/-! ### a def with defaults, by its body -/
theorem fn_okD {P : Program} {w : World} {K : PySem.W.Frag} {mg : Str → Option Value} {base : Heap} {cl : Str → Option Addr} {x qual : Str} {st : Stmt} {f : Addr} {fd : FuncData} {N ps : List Str} {dvs : List L2.V} {k n NN : Nat} {s : MS} (F : FunD K x qual (defArgs st) (defBody st) (defScope st) dvs [] f fd) (S : FnScope N ps (defScope st)) (hn : ps.length = n) (hN : N.length = NN)
    (hbody : ∀ (cdv : Value) (A : Around) (outer : List Env) (sh : Shared) (H : Hp) (E : XK), Cn (cxOf (L2.CX P w) P w K mg base N qual (defScope st) f cdv A outer sh H E) { K := K, cl := cl } (fun cls d _ H' => E cls d H') k →
      PSs (cxOf (L2.CX P w) P w K mg base N qual (defScope st) f cdv A outer sh H E) (defBody st) (sM { K := K, cl := cl } (fun cls d _ H' => E cls d H') s)) : FnOk P w K mg base (L2.CX P w) (k + 1) f fd ps (spM K cl n (mFn n NN s)) := by
  obtain ⟨oc, od, dV, kV, doc, pm, an, cdv, ct, osl, rfl, lk, hcd, _, _⟩ := F.ex
  refine fn_of lk hcd S (fun vs H Q E h => ?_) (fun A outer sh H vs Q E hr h => ⟨_, hbody cdv A outer sh H E (cn_of hr S.nd), ?_⟩)
  · obtain ⟨β, ds, S, R, rs, hl, _⟩ := h
    rw [rs.length, hl, hn]
  · obtain ⟨β, ds, S1, R, rs, hl, h⟩ := h
    subst hN
    refine ⟨β, _, S1, R, start_rel rs, ?_⟩
    unfold mFn at h
    rw [← hl] at h
    refine Gd.imp h.bind fun p S2 β2 H2 e2 R2 h2 => ?_
    obtain ⟨fl, ρ2⟩ := p
    cases fl with
    | nx => exact fun σ' V' => h2 β2 H2 Ex.refl R2 _ .non
    | rt d => exact fun v r => h2 β2 H2 Ex.refl R2 _ r
    | bk => exact h2.elim
    | ct => exact h2.elim
end Mi
namespace Mi
open PySem
/-! ### what a mirror gives, by steps -/
def Wp {α : Type} (r : Rs α) (Q : α → So → Prop) : Prop := match r with
  | .ok a S => Q a S
  | _ => False
section
variable {α γ : Type} {r : Rs α} {Q Q' : α → So → Prop} {ρ : Ro} {S : So}
theorem Wp.get (h : Wp r Q) : ∃ a S, r = .ok a S ∧ Q a S := by
  cases r with
  | ok a S => exact ⟨a, S, rfl, h⟩
  | ex c r S => exact h.elim
  | stuck => exact h.elim
theorem Wp.ok {a : α} {S' : So} (e : r = .ok a S') (h : Q a S') : Wp r Q := by
  rw [e]
  exact h
theorem Wp.mono (h : Wp r Q) (hq : ∀ a S, Q a S → Q' a S) : Wp r Q' := by
  cases r with
  | ok a S => exact hq a S h
  | ex c r S => exact h.elim
  | stuck => exact h.elim
theorem Wp.bind {f : α → So → Rs γ} {P : γ → So → Prop} (h : Wp r fun a S => Wp (f a S) P) : Wp (r.bind f) P := by
  cases r with
  | ok a S => exact h
  | ex c r S => exact h.elim
  | stuck => exact h.elim
theorem Wp.ite {c : Bool} {x y : Rs α} (h1 : c = true → Wp x Q) (h2 : c = false → Wp y Q) : Wp (if c then x else y) Q := by
  cases c with
  | true => exact h1 rfl
  | false => exact h2 rfl
theorem Wp.itep {c : Prop} [Decidable c] {x y : Rs α} (h1 : c → Wp x Q) (h2 : ¬ c → Wp y Q) : Wp (if c then x else y) Q := by
  by_cases h : c
  · rw [if_pos h]
    exact h1 h
  · rw [if_neg h]
    exact h2 h
theorem Wp.pos {c : Prop} [Decidable c] {x y : Rs α} (h : c) (h1 : Wp x Q) : Wp (if c then x else y) Q := by
  rw [if_pos h]
  exact h1
theorem Wp.neg {c : Prop} [Decidable c] {x y : Rs α} (h : ¬ c) (h1 : Wp y Q) : Wp (if c then x else y) Q := by
  rw [if_neg h]
  exact h1
end
section
variable {ρ : Ro} {S : So} {Q : D → So → Prop} {T : Bool → So → Prop} {R : List D → So → Prop} {B : Fl × Ro → So → Prop} {m ma mb mc mo mi' : ME} {mt mu : MT} {mr : MA} {s1 s2 : MS} {mi : MI} {bn : Bnd} {f g : D → D → So → Rs D} {u : D → So → Rs D}
theorem Wp.var {i : Nat} {d : D} (e : ρ[i]? = some (some d)) (h : Q d S) : Wp (mVar i ρ S) Q := by
  unfold mVar
  rw [e]
  exact h
theorem Wp.c {d : D} (h : Q d S) : Wp (mC d ρ S) Q := h
theorem Wp.m1 (h : Wp (ma ρ S) fun d S1 => Wp (u d S1) Q) : Wp (Mi.m1 u ma ρ S) Q := h.bind
theorem Wp.m2 (h : Wp (ma ρ S) fun d S1 => Wp (mb ρ S1) fun e S2 => Wp (f d e S2) Q) : Wp (Mi.m2 f ma mb ρ S) Q := Wp.bind (h.mono fun _ _ h => h.bind)
theorem Wp.b (h : Wp (m ρ S) fun d S1 => Wp (asB d S1) T) : Wp (mB m ρ S) T := h.bind
theorem Wp.asB {b : Bool} (h : T b S) : Wp (Mi.asB (.bl b) S) T := h
theorem Wp.and (h : Wp (mt ρ S) fun c S1 => (c = true → Wp (mu ρ S1) T) ∧ (c = false → T false S1)) : Wp (mAnd mt mu ρ S) T := Wp.bind (h.mono fun c S1 h => by
  cases c with
  | true => exact h.1 rfl
  | false => exact h.2 rfl)
theorem Wp.or (h : Wp (mt ρ S) fun c S1 => (c = true → T true S1) ∧ (c = false → Wp (mu ρ S1) T)) : Wp (mOr mt mu ρ S) T := Wp.bind (h.mono fun c S1 h => by
  cases c with
  | true => exact h.1 rfl
  | false => exact h.2 rfl)
theorem Wp.not (h : Wp (mt ρ S) fun c S1 => T (!c) S1) : Wp (mNot mt ρ S) T := Wp.bind h
theorem Wp.andV (h : Wp (ma ρ S) fun c S1 => ∃ b, c = .bl b ∧ (b = true → Wp (mb ρ S1) Q) ∧ (b = false → Q (.bl false) S1)) : Wp (mAndV ma mb ρ S) Q := Wp.bind (h.mono fun c S1 ⟨b, e, h⟩ => by
  subst e
  cases b with
  | true => exact h.1 rfl
  | false => exact h.2 rfl)
theorem Wp.orV (h : Wp (ma ρ S) fun c S1 => ∃ b, c = .bl b ∧ (b = true → Q (.bl true) S1) ∧ (b = false → Wp (mb ρ S1) Q)) : Wp (mOrV ma mb ρ S) Q := Wp.bind (h.mono fun c S1 ⟨b, e, h⟩ => by
  subst e
  cases b with
  | true => exact h.1 rfl
  | false => exact h.2 rfl)
theorem Wp.notV (h : Wp (ma ρ S) fun c S1 => ∃ b, c = .bl b ∧ Q (.bl (!b)) S1) : Wp (mNotV ma ρ S) Q := Wp.bind (h.mono fun c S1 ⟨b, e, h⟩ => by
  subst e
  exact h)
theorem Wp.iteE (h : Wp (mt ρ S) fun c S1 => (c = true → Wp (ma ρ S1) Q) ∧ (c = false → Wp (mb ρ S1) Q)) : Wp (mIte mt ma mb ρ S) Q := Wp.bind (h.mono fun c S1 h => by
  cases c with
  | true => exact h.1 rfl
  | false => exact h.2 rfl)
theorem Wp.chain (h : Wp (ma ρ S) fun d S1 => Wp (mb ρ S1) fun e S2 => Wp (f d e S2) fun z S3 => ∃ b, z = .bl b ∧ (b = true → Wp (mc ρ S3) fun w S4 => Wp (g e w S4) Q) ∧ (b = false → Q (.bl false) S3)) : Wp (mChain f g ma mb mc ρ S) Q :=
  Wp.bind (h.mono fun _ _ h => Wp.bind (h.mono fun _ _ h => Wp.bind (h.mono fun z S1 ⟨b, e, h⟩ => by
    subst e
    cases b with
    | true => exact (h.1 rfl).bind
    | false => exact h.2 rfl)))
theorem Wp.nilA (h : R [] S) : Wp (mNilA ρ S) R := h
theorem Wp.consA (h : Wp (m ρ S) fun d S1 => Wp (mr ρ S1) fun ds S2 => R (d :: ds) S2) : Wp (mConsA m mr ρ S) R := Wp.bind (h.mono fun _ _ h => Wp.bind h)
theorem Wp.tup (h : Wp (mr ρ S) fun ds S1 => ds.length ≤ lim ∧ Q (.tup ds) S1) : Wp (mTup mr ρ S) Q := Wp.bind (h.mono fun _ _ h => Wp.pos h.1 h.2)
theorem Wp.lst (h : Wp (mr ρ S) fun ds S1 => ds.length ≤ lim ∧ Q (.ref S1.length) (S1 ++ [.lst ds])) : Wp (mLst mr ρ S) Q := Wp.bind (h.mono fun _ _ h => Wp.pos h.1 h.2)
theorem Wp.dict0 (h : Q (.ref S.length) (S ++ [.dct []])) : Wp (mDict0 ρ S) Q := h
theorem Wp.noPart {O : Option Int → So → Prop} (h : O none S) : Wp (mNoPart ρ S) O := h
theorem Wp.part {O : Option Int → So → Prop} (h : Wp (m ρ S) fun d S1 => ∃ i, d = .int i ∧ O (some i) S1) : Wp (mPart m ρ S) O := Wp.bind (h.mono fun _ _ ⟨i, e, h⟩ => by
  subst e
  exact h)
theorem Wp.sl {ml mh : MO} (h : Wp (m ρ S) fun d S1 => Wp (ml ρ S1) fun l S2 => Wp (mh ρ S2) fun u S3 => Wp (slD d l u S3) Q) : Wp (mSl m ml mh ρ S) Q := Wp.bind (h.mono fun _ _ h => Wp.bind (h.mono fun _ _ h => Wp.bind h))
theorem Wp.callB {F : List D → So → Rs D} (h : Wp (mr ρ S) fun ds S1 => Wp (F ds S1) Q) : Wp (mCallB F mr ρ S) Q := Wp.bind h
theorem Wp.meth {ok : So → D → Bool} {F : D → List D → So → Rs D} (h : Wp (mo ρ S) fun d S1 => ok S1 d = true ∧ Wp (mr ρ S1) fun ds S2 => Wp (F d ds S2) Q) : Wp (mMeth ok F mo mr ρ S) Q := Wp.bind (h.mono fun _ _ h => Wp.pos h.1 (Wp.bind h.2))
theorem Wp.is {ty : Ty} (h : Wp (m ρ S) fun d S1 => ∃ t, tyO S1 d = some t ∧ Q (.bl (isTy t ty)) S1) : Wp (mIs ty m ρ S) Q := Wp.bind (h.mono fun _ _ ⟨t, e, h⟩ => by
  simp only [e]
  exact h)
theorem Wp.joinNil {acc : Str} (h : Q (.str acc) S) : Wp (joinGo [] acc ρ S) Q := h
theorem Wp.joinCons {acc : Str} {ms : List ME} (h : Wp (m ρ S) fun d S1 => ∃ y, d = .str y ∧ (acc ++ y).length ≤ lim ∧ Wp (joinGo ms (acc ++ y) ρ S1) Q) : Wp (joinGo (m :: ms) acc ρ S) Q := Wp.bind (h.mono fun _ _ ⟨y, e, h1, h2⟩ => by
  subst e
  exact Wp.pos h1 h2)
theorem Wp.join {ms : List ME} (h : Wp (joinGo ms Str.empty ρ S) Q) : Wp (mJoin ms ρ S) Q := h
theorem Wp.call {F : MF} {n : Nat} {dds : List D} (h : Wp (mr ρ S) fun ds S1 => (ds ++ dds).length = n ∧ Wp (F (ds ++ dds) S1) Q) : Wp (mCall F n dds mr ρ S) Q := Wp.bind (h.mono fun ds S1 h => Wp.pos h.1 (by
  obtain ⟨d, S2, e, q⟩ := h.2.get
  rw [e]
  exact q))
theorem Wp.seq (h : Wp (s1 ρ S) fun p S1 => (p.1 = .nx → Wp (s2 p.2 S1) B) ∧ (p.1 ≠ .nx → B p S1)) : Wp (mSeq s1 s2 ρ S) B := Wp.bind (h.mono fun p S1 h => by
  obtain ⟨f, ρ'⟩ := p
  cases f with
  | nx => exact h.1 rfl
  | bk => exact h.2 (fun z => by cases z)
  | ct => exact h.2 (fun z => by cases z)
  | rt d => exact h.2 (fun z => by cases z))
theorem Wp.nx {s2 : MS} {ρ' : Ro} (h : Wp (s2 ρ' S) B) : ((Fl.nx, ρ').1 = .nx → Wp (s2 (Fl.nx, ρ').2 S) B) ∧ ((Fl.nx, ρ').1 ≠ .nx → B (Fl.nx, ρ') S) := ⟨fun _ => h, fun z => absurd rfl z⟩
theorem Wp.rt {s2 : MS} {ρ' : Ro} {d : D} (h : B (.rt d, ρ') S) : ((Fl.rt d, ρ').1 = .nx → Wp (s2 (Fl.rt d, ρ').2 S) B) ∧ ((Fl.rt d, ρ').1 ≠ .nx → B (Fl.rt d, ρ') S) := ⟨(fun z => Fl.noConfusion z), fun _ => h⟩
theorem Wp.bk {s2 : MS} {ρ' : Ro} (h : B (.bk, ρ') S) : ((Fl.bk, ρ').1 = .nx → Wp (s2 (Fl.bk, ρ').2 S) B) ∧ ((Fl.bk, ρ').1 ≠ .nx → B (Fl.bk, ρ') S) := ⟨(fun z => Fl.noConfusion z), fun _ => h⟩
theorem Wp.ct {s2 : MS} {ρ' : Ro} (h : B (.ct, ρ') S) : ((Fl.ct, ρ').1 = .nx → Wp (s2 (Fl.ct, ρ').2 S) B) ∧ ((Fl.ct, ρ').1 ≠ .nx → B (Fl.ct, ρ') S) := ⟨(fun z => Fl.noConfusion z), fun _ => h⟩
theorem Wp.skip (h : B (.nx, ρ) S) : Wp (mSkip ρ S) B := h
theorem Wp.brk (h : B (.bk, ρ) S) : Wp (mBk ρ S) B := h
theorem Wp.cnt (h : B (.ct, ρ) S) : Wp (mCt ρ S) B := h
theorem Wp.drop (h : Wp (m ρ S) fun _ S1 => B (.nx, ρ) S1) : Wp (mDrop m ρ S) B := Wp.bind h
theorem Wp.ret (h : Wp (m ρ S) fun d S1 => B (.rt d, ρ) S1) : Wp (mRet m ρ S) B := Wp.bind h
theorem Wp.retN (h : B (.rt .non, ρ) S) : Wp (mRetN ρ S) B := h
theorem Wp.if_ (h : Wp (mt ρ S) fun c S1 => (c = true → Wp (s1 ρ S1) B) ∧ (c = false → Wp (s2 ρ S1) B)) : Wp (mIf mt s1 s2 ρ S) B := Wp.bind (h.mono fun c S1 h => by
  cases c with
  | true => exact h.1 rfl
  | false => exact h.2 rfl)
theorem Wp.asg (h : Wp (m ρ S) fun d S1 => ∃ ρ', bn d ρ = some ρ' ∧ B (.nx, ρ') S1) : Wp (mAsg m bn ρ S) B := Wp.bind (h.mono fun d S1 ⟨ρ', e, h⟩ => by
  simp only [e]
  exact h)
theorem Wp.asgN {i : Nat} (h : Wp (m ρ S) fun d S1 => B (.nx, ρ.set i (some d)) S1) : Wp (mAsg m (bN i) ρ S) B := Wp.asg (h.mono fun d S1 h => ⟨_, rfl, h⟩)
theorem Wp.aug {i : Nat} {d : D} (e : ρ[i]? = some (some d)) (h : Wp (m ρ S) fun x S1 => Wp (f d x S1) fun z S2 => B (.nx, ρ.set i (some z)) S2) : Wp (mAug i f m ρ S) B := by
  unfold mAug
  rw [e]
  exact Wp.bind (h.mono fun _ _ h => Wp.bind h)
theorem Wp.store {F : D → D → D → So → Rs Unit} (h : Wp (mc ρ S) fun z S1 => Wp (mo ρ S1) fun d S2 => Wp (mi' ρ S2) fun e S3 => Wp (F d e z S3) fun _ S4 => B (.nx, ρ) S4) : Wp (mStore F mo mi' mc ρ S) B :=
  Wp.bind (h.mono fun _ _ h => Wp.bind (h.mono fun _ _ h => Wp.bind (h.mono fun _ _ h => Wp.bind h)))
/-- how a body ends, as a def's value -/
def fnK (Q : D → So → Prop) : Fl × Ro → So → Prop := fun p S => match p.1 with
  | .nx => Q .non S
  | .rt d => Q d S
  | _ => False
theorem Wp.fn {n N : Nat} {s : MS} {ds : List D} (h : Wp (s (ds.map some ++ List.replicate (N - n) none) S) (fnK Q)) : Wp (mFn n N s ds S) Q := Wp.bind (h.mono fun p S1 h => by
  obtain ⟨f, ρ'⟩ := p
  cases f with
  | nx => exact h
  | rt d => exact h
  | bk => exact h.elim
  | ct => exact h.elim)
theorem fnK.rt {d : D} {ρ' : Ro} (h : Q d S) : fnK Q (.rt d, ρ') S := h
theorem fnK.nx {ρ' : Ro} (h : Q .non S) : fnK Q (.nx, ρ') S := h
/-! ### loops over values that are known -/
/-- the end of a turn: on with the next one, or out -/
def turnK (N : Ro → So → Prop) (B : Fl × Ro → So → Prop) : Fl × Ro → So → Prop := fun p S => match p.1 with
  | .nx => N p.2 S
  | .ct => N p.2 S
  | .bk => B (.nx, p.2) S
  | .rt d => B (.rt d, p.2) S
theorem vals_go {ds : List D} {s : MS} (I : Nat → Ro → So → Prop) (hturn : ∀ i d ρ S, ds[i]? = some d → I i ρ S → ∃ ρ1, bn d ρ = some ρ1 ∧ Wp (s ρ1 S) (turnK (I (i + 1)) B)) (hend : ∀ ρ S, I ds.length ρ S → B (.nx, ρ) S) :
    ∀ (k i : Nat) (ρ : Ro) (S : So), i + k = ds.length → I i ρ S → Wp (forGo (.vals ds) bn s k i ρ S) B
  | 0, i, ρ, S, e, h => by
    have : ds[i]? = none := List.getElem?_eq_none (by omega)
    unfold forGo
    simp only [IT.at, this]
    have : i = ds.length := by omega
    subst this
    exact hend ρ S h
  | k + 1, i, ρ, S, e, h => by
    have hi : i < ds.length := by omega
    have hd : ds[i]? = some ds[i] := List.getElem?_eq_getElem hi
    obtain ⟨ρ1, hb, hw⟩ := hturn i _ ρ S hd h
    unfold forGo
    simp only [IT.at, hd, hb]
    refine Wp.bind (hw.mono fun p S1 q => ?_)
    obtain ⟨f, ρ2⟩ := p
    cases f with
    | nx => exact vals_go I hturn hend k (i + 1) ρ2 S1 (by omega) q
    | ct => exact vals_go I hturn hend k (i + 1) ρ2 S1 (by omega) q
    | bk => exact q
    | rt d => exact q
theorem Wp.forV {s : MS} (h : Wp (mi ρ S) fun it S1 => ∃ ds, it = .vals ds ∧ ∃ I : Nat → Ro → So → Prop, I 0 ρ S1 ∧ (∀ i d ρ S, ds[i]? = some d → I i ρ S → ∃ ρ1, bn d ρ = some ρ1 ∧ Wp (s ρ1 S) (turnK (I (i + 1)) B)) ∧ (∀ ρ S, I ds.length ρ S → B (.nx, ρ) S)) : Wp (mFor mi bn s ρ S) B :=
  Wp.bind (h.mono fun it S1 ⟨ds, e, I, h0, h1, h2⟩ => by
    subst e
    exact vals_go I h1 h2 ds.length 0 ρ S1 (by omega) h0)
theorem Wp.itV {P : IT → So → Prop} (h : Wp (m ρ S) fun d S1 => (∃ ds, (d = .tup ds ∨ d = .frl ds) ∧ P (.vals ds) S1) ∨ (∃ x, d = .str x ∧ P (.vals (chD x)) S1) ∨ ∃ n ds, d = .ref n ∧ S1[n]? = some (.lst ds) ∧ P (.lst n) S1) : Wp (mIt m ρ S) P := Wp.bind (h.mono fun d S1 h => by
  rcases h with ⟨ds, rfl | rfl, h⟩ | ⟨x, rfl, h⟩ | ⟨n, ds, rfl, e, h⟩
  · exact h
  · exact h
  · exact h
  · simp only [e]
    exact h)
theorem Wp.rng1 {P : IT → So → Prop} (h : Wp (mr ρ S) fun ds S1 => ∃ j : Int, ds = [.int j] ∧ (j ≤ (lim : Int) ∧ -(2 ^ 62) ≤ j) ∧ P (.vals ((List.range j.toNat).map fun (k : Nat) => D.int (0 + (k : Int)))) S1) : Wp (mRng1 mr ρ S) P := Wp.bind (h.mono fun _ _ ⟨j, e, hc, h⟩ => by
  subst e
  exact Wp.pos hc h)
/-! ### comprehensions over values that are known -/
theorem lc_go {ds : List D} {n : Nat} (I : Nat → So → Prop) (hturn : ∀ i d S, ds[i]? = some d → I i S → ∃ ρ1, bn d ρ = some ρ1 ∧ Wp (mt ρ1 S) fun c S1 => (c = true → Wp (m ρ1 S1) fun y S2 => ∃ acc, S2[n]? = some (.lst acc) ∧ acc.length < lim ∧ I (i + 1) (S2.set n (.lst (acc ++ [y])))) ∧ (c = false → I (i + 1) S1)) (hend : ∀ S, I ds.length S → Q (.ref n) S) :
    ∀ (k i : Nat) (S : So), i + k = ds.length → I i S → Wp (lcGo (.vals ds) bn mt m n k i ρ S) Q
  | 0, i, S, e, h => by
    have : ds[i]? = none := List.getElem?_eq_none (by omega)
    unfold lcGo
    simp only [IT.at, this]
    have : i = ds.length := by omega
    subst this
    exact hend S h
  | k + 1, i, S, e, h => by
    have hi : i < ds.length := by omega
    have hd : ds[i]? = some ds[i] := List.getElem?_eq_getElem hi
    obtain ⟨ρ1, hb, hw⟩ := hturn i _ S hd h
    unfold lcGo
    simp only [IT.at, hd, hb]
    obtain ⟨c, S1, e1, h1⟩ := hw.get
    rw [e1]
    cases c with
    | false => exact lc_go I hturn hend k (i + 1) S1 (by omega) (h1.2 rfl)
    | true =>
      obtain ⟨y, S2, e2, acc, e3, hl, h2⟩ := (h1.1 rfl).get
      simp only [if_true, e2, e3, if_pos hl]
      exact lc_go I hturn hend k (i + 1) _ (by omega) h2
theorem Wp.lcV {vs : List Nat} (h : Wp (mi ρ S) fun it S1 => ∃ ds, it = .vals ds ∧ ∃ I : Nat → So → Prop, I 0 (S1 ++ [.lst []]) ∧
    (∀ i d S, ds[i]? = some d → I i S → ∃ ρ1, bn d (wipeR ρ vs) = some ρ1 ∧ Wp (mt ρ1 S) fun c S2 => (c = true → Wp (m ρ1 S2) fun y S3 => ∃ acc, S3[S1.length]? = some (.lst acc) ∧ acc.length < lim ∧ I (i + 1) (S3.set S1.length (.lst (acc ++ [y])))) ∧ (c = false → I (i + 1) S2)) ∧
    (∀ S, I ds.length S → Q (.ref S1.length) S)) : Wp (mLc mi bn mt m vs ρ S) Q :=
  Wp.bind (h.mono fun it S1 ⟨ds, e, I, h0, h1, h2⟩ => by
    subst e
    exact lc_go I h1 h2 ds.length 0 _ (by omega) h0)
theorem Wp.yes (h : T true S) : Wp (mYes ρ S) T := h
end
end Mi
namespace Mi
section
variable {S : So} {Q : D → So → Prop} {X Y : Prop}
theorem Wp.bt {b : Bool} (e : b = true) (h : X) : (b = true → X) ∧ (b = false → Y) := ⟨fun _ => h, fun z => by rw [e] at z; cases z⟩
theorem Wp.bf {b : Bool} (e : b = false) (h : Y) : (b = true → X) ∧ (b = false → Y) := ⟨(fun z => by rw [e] at z; cases z), fun _ => h⟩
/-- a leaf: an operation on values that is worked out -/
theorem Wp.op2 {f : D → D → So → Rs D} {d e a : D} {S' : So} (h1 : f d e S = .ok a S') (h : Q a S') : Wp (f d e S) Q := Wp.ok h1 h
theorem Wp.op1 {f : D → So → Rs D} {d a : D} {S' : So} (h1 : f d S = .ok a S') (h : Q a S') : Wp (f d S) Q := Wp.ok h1 h
theorem Wp.opL {f : List D → So → Rs D} {d : List D} {a : D} {S' : So} (h1 : f d S = .ok a S') (h : Q a S') : Wp (f d S) Q := Wp.ok h1 h
theorem ix_lst {n : Nat} {ds : List D} {i : Int} {z : D} (h : S[n]? = some (.lst ds)) (hz : L2.atI ds i = some z) : ixD (.ref n) (.int i) S = .ok z S := by
  unfold ixD ixO vw
  simp only [h, hz]
theorem ix_tup {ds : List D} {i : Int} {z : D} (hz : L2.atI ds i = some z) : ixD (.tup ds) (.int i) S = .ok z S := by
  unfold ixD ixO vw
  simp only [hz]
theorem len_lst {n : Nat} {ds : List D} (h : S[n]? = some (.lst ds)) : lenD [.ref n] S = .ok (.int ds.length) S := by
  unfold lenD lenO vw
  simp only [h]
theorem set_lst {n j : Nat} {ds : List D} {i : Int} {z : D} (h : S[n]? = some (.lst ds)) (hj : L2.ixN ds.length i = some j) : setD (.ref n) (.int i) z S = .ok () (S.set n (.lst (ds.set j z))) := by
  unfold setD setL
  simp only [h, hj]
theorem app_lst {n : Nat} {ds : List D} {z : D} (h : S[n]? = some (.lst ds)) (hl : ds.length < lim) : appendD (.ref n) [z] S = .ok .non (S.set n (.lst (ds ++ [z]))) := by
  unfold appendD
  simp only [h, if_pos hl]
end
end Mi
namespace Mi
section
variable {N : Ro → So → Prop} {B : Fl × Ro → So → Prop} {ρ : Ro} {S : So} {d : D}
theorem turnK.nx (h : N ρ S) : turnK N B (.nx, ρ) S := h
theorem turnK.ct (h : N ρ S) : turnK N B (.ct, ρ) S := h
theorem turnK.bk (h : B (.nx, ρ) S) : turnK N B (.bk, ρ) S := h
theorem turnK.rt (h : B (.rt d, ρ) S) : turnK N B (.rt d, ρ) S := h
end
end Mi
namespace Mi
section
variable {S : So} {a b c d : D} {ds : List D}
theorem ix_t0 : ixD (.tup (a :: ds)) (.int 0) S = .ok a S := ix_tup (by
  have : (0 : Int) < ((a :: ds).length : Nat) := by simp only [List.length_cons]; omega
  unfold L2.atI L2.ixN
  rw [if_pos (by decide), if_pos this]
  rfl)
theorem ix_t1 : ixD (.tup (a :: b :: ds)) (.int 1) S = .ok b S := ix_tup (by
  have : (1 : Int) < ((a :: b :: ds).length : Nat) := by simp only [List.length_cons]; omega
  unfold L2.atI L2.ixN
  rw [if_pos (by decide), if_pos this]
  rfl)
theorem ix_t2 : ixD (.tup (a :: b :: c :: ds)) (.int 2) S = .ok c S := ix_tup (by
  have : (2 : Int) < ((a :: b :: c :: ds).length : Nat) := by simp only [List.length_cons]; omega
  unfold L2.atI L2.ixN
  rw [if_pos (by decide), if_pos this]
  rfl)
theorem ix_t3 : ixD (.tup (a :: b :: c :: d :: ds)) (.int 3) S = .ok d S := ix_tup (by
  have : (3 : Int) < ((a :: b :: c :: d :: ds).length : Nat) := by simp only [List.length_cons]; omega
  unfold L2.atI L2.ixN
  rw [if_pos (by decide), if_pos this]
  rfl)
end
end Mi
namespace Mi
section
variable {Q : D → So → Prop} {ρ : Ro} {S : So}
theorem Wp.isE {is : Is} {c : Exn} {b : Bool} (e : is c.cls = some b) (h : Q (.bl b) S) : Wp (mIsE is c ρ S) Q := by
  unfold mIsE
  simp only [e]
  exact h
theorem Wp.xf {nm fld : PySem.Str} {c : Exn} {d : D} (e : (if c.cls = nm then c.fs.lookup fld else none) = some d) (h : Q d S) : Wp (mXf nm fld c ρ S) Q := by
  unfold mXf
  by_cases hc : c.cls = nm
  · rw [if_pos hc] at e
    simp only [if_pos hc, e]
    exact h
  · rw [if_neg hc] at e
    cases e
end
end Mi
namespace Mi
open PySem
section
variable {B : Fl × Ro → So → Prop} {ρ : Ro} {S : So} {d : D} {mi : MI} {bn : Bnd} {s mb : MS} {is : Is} {i : Nat} {ms : Exn → MS}
/-- a loop over values, turn by turn -/
def loopP (bn : Bnd) (s : MS) (B : Fl × Ro → So → Prop) : List D → Ro → So → Prop
  | [], ρ, S => B (.nx, ρ) S
  | d :: ds, ρ, S => ∃ ρ1, bn d ρ = some ρ1 ∧ Wp (s ρ1 S) (turnK (loopP bn s B ds) B)
theorem Wp.forL (h : Wp (mi ρ S) fun it S1 => ∃ ds, it = .vals ds ∧ loopP bn s B ds ρ S1) : Wp (mFor mi bn s ρ S) B := Wp.forV (h.mono fun it S1 ⟨ds, e, h⟩ => ⟨ds, e, fun i ρ S => loopP bn s B (ds.drop i) ρ S, h, fun i d ρ S hd h => by
  have : ds.drop i = d :: ds.drop (i + 1) := by
    have hi := (List.getElem?_eq_some_iff.mp hd).1
    rw [List.drop_eq_getElem_cons hi]
    congr 1
    exact (List.getElem?_eq_some_iff.mp hd).2
  simp only [this] at h
  exact h, fun ρ S h => by
  simp only [List.drop_length] at h
  exact h⟩)
theorem Wp.try_ok (h : Wp (mb ρ S) B) : Wp (mTryAs is i mb ms ρ S) B := by
  obtain ⟨p, S1, e, q⟩ := h.get
  unfold mTryAs
  rw [e]
  exact q
theorem Wp.try_ex {c : Exn} {ρ1 : Ro} {S1 : So} (e : mb ρ S = .ex c ρ1 S1) (hi : is c.cls = some true) (hl : i < ρ1.length) (h : Wp (ms c (ρ1.set i none) S1) fun p S2 => B (p.1, p.2.set i none) S2) : Wp (mTryAs is i mb ms ρ S) B := by
  unfold mTryAs
  rw [e]
  simp only [hi, if_pos hl]
  obtain ⟨p, S2, e2, q⟩ := h.get
  rw [e2]
  exact q
theorem app_last {l : List D} {y : D} (hl : l.length < lim) : appendD (.ref S.length) [y] (S ++ [.lst l]) = .ok .non (S ++ [.lst (l ++ [y])]) := by
  have h : (S ++ [O.lst l])[S.length]? = some (.lst l) := by simp
  rw [app_lst h hl]
  congr 1
  rw [List.set_append_right _ _ (Nat.le_refl _)]
  simp
theorem seq_last {l : List D} : seqO (S ++ [.lst l]) (.ref S.length) = some l := by
  have h : (S ++ [O.lst l])[S.length]? = some (.lst l) := by simp
  unfold seqO vw
  simp only [h]
theorem ty_last {l : List D} : isLst (S ++ [.lst l]) (.ref S.length) = true := by
  have h : (S ++ [O.lst l])[S.length]? = some (.lst l) := by simp
  unfold isLst
  simp only [h]
theorem join_of {a y : Str} {d : D} {ds : List D} {ys : List Str} (h1 : seqO S d = some ds) (h2 : strsO ds = some ys) (hl : (ys.map (·.length)).sum + ys.length * a.length ≤ lim) (hy : Str.join a ys = y) : joinD (.str a) [d] S = .ok (.str y) S := by
  unfold joinD
  simp only [h1, h2, if_pos hl]
  rw [← hy]
  have := eq_of_beq (PyProof.Rows.join_plain_closes a ys)
  rw [this]
theorem add_str {x y : Str} (h : x.length + y.length ≤ lim) : addD (.str x) (.str y) S = .ok (.str (x ++ y)) S := by
  unfold addD
  simp only [if_pos h]
theorem fmt_str {x : Str} (h : x.length ≤ lim) : fmtD (.str x) S = .ok (.str x) S := by
  unfold fmtD
  simp only [if_pos h]
theorem fmt_int {n : Int} (h : n.natAbs.log2 < 1920) : fmtD (.int n) S = .ok (.str (toString n)) S := by
  unfold fmtD
  simp only [if_pos h]
theorem str_int {n : Int} (h : n.natAbs.log2 < 1920) : strD [.int n] S = .ok (.str (toString n)) S := by
  unfold strD
  simp only [if_pos h]
theorem log_of {n : Int} (h0 : 0 ≤ n) (h : n < 10 ^ 10) : n.natAbs.log2 < 1920 := by
  have h1 : n.natAbs < 2 ^ 1920 := Nat.lt_of_lt_of_le (by omega : n.natAbs < 10 ^ 10) (Nat.le_of_lt (by decide +kernel))
  by_cases hz : n.natAbs = 0
  · rw [hz]; decide
  · exact (Nat.log2_lt hz).mpr h1
end
end Mi
local macro_rules | `(tactic| walk_at "ml") => `(tactic| first
  | ((with_reducible refine' Mi.Wp.op2 (f := Mi.eqD) ?mi_e ?_); case mi_e => rfl)
  | ((with_reducible refine' Mi.Wp.op2 (f := Mi.neD) ?mi_e ?_); case mi_e => rfl)
  | ((with_reducible refine' Mi.Wp.op2 (f := Mi.addD) ?mi_e ?_); case mi_e => rfl)
  | ((with_reducible refine' Mi.Wp.op2 (f := Mi.subD) ?mi_e ?_); case mi_e => rfl)
  | ((with_reducible refine' Mi.Wp.op2 (f := Mi.ltD) ?mi_e ?_); case mi_e => rfl)
  | ((with_reducible refine' Mi.Wp.op2 (f := Mi.leD) ?mi_e ?_); case mi_e => rfl)
  | ((with_reducible refine' Mi.Wp.op2 (f := Mi.gtD) ?mi_e ?_); case mi_e => rfl)
  | ((with_reducible refine' Mi.Wp.op2 (f := Mi.geD) ?mi_e ?_); case mi_e => rfl)
  | ((with_reducible refine' Mi.Wp.op2 (f := Mi.powD) ?mi_e ?_); case mi_e => rfl)
  | ((with_reducible refine' Mi.Wp.op2 (f := Mi.mulD) ?mi_e ?_); case mi_e => rfl)
  | ((with_reducible refine' Mi.Wp.op2 (f := Mi.fdivD) ?mi_e ?_); case mi_e => rfl)
  | ((with_reducible refine' Mi.Wp.op2 (f := Mi.modD) ?mi_e ?_); case mi_e => rfl)
  | ((with_reducible refine' Mi.Wp.op2 (f := Mi.inD) ?mi_e ?_); case mi_e => rfl)
  | ((with_reducible refine' Mi.Wp.op2 (f := Mi.notInD) ?mi_e ?_); case mi_e => rfl)
  | ((with_reducible refine' Mi.Wp.op2 (f := Mi.ixD) ?mi_e ?_); case mi_e => first | rfl | exact Mi.ix_lst (by assumption) (by rfl) | exact Mi.ix_t0 | exact Mi.ix_t1 | exact Mi.ix_t2 | exact Mi.ix_t3)
  | ((with_reducible refine' Mi.Wp.op1 (f := Mi.fmtD) ?mi_e ?_); case mi_e => rfl)
  | ((with_reducible refine' Mi.Wp.op1 (f := Mi.negD) ?mi_e ?_); case mi_e => rfl)
  | ((with_reducible refine' Mi.Wp.op1 (f := Mi.isND) ?mi_e ?_); case mi_e => rfl)
  | ((with_reducible refine' Mi.Wp.op1 (f := Mi.notND) ?mi_e ?_); case mi_e => rfl)
  | ((with_reducible refine' Mi.Wp.opL (f := Mi.lenD) ?mi_e ?_); case mi_e => first | rfl | exact Mi.len_lst (by assumption))
  | ((with_reducible refine' Mi.Wp.opL (f := Mi.intD) ?mi_e ?_); case mi_e => rfl)
  | ((with_reducible refine' Mi.Wp.opL (f := Mi.strD) ?mi_e ?_); case mi_e => rfl)
  | ((with_reducible refine' Mi.Wp.bt ?mi_e ?_); case mi_e => rfl)
  | ((with_reducible refine' Mi.Wp.bf ?mi_e ?_); case mi_e => rfl)
  | ((with_reducible refine' Mi.Wp.var ?mi_e ?_); case mi_e => rfl)
  | ((with_reducible refine' Exists.intro ?_ (And.intro ?mi_e ?_)); case mi_e => rfl)
  | ((with_reducible refine' And.intro ?mi_e ?_); case mi_e => first | rfl | exact Nat.le_of_ble_eq_true rfl)
  | ((with_reducible refine' Mi.Wp.isE ?mi_e ?_); case mi_e => rfl)
  | ((with_reducible refine' Mi.Wp.xf ?mi_e ?_); case mi_e => rfl))
local macro_rules | `(tactic| walk_at "mi") => `(tactic| with_reducible first
  | refine Mi.Wp.fn ?_ | refine Mi.Wp.seq ?_ | refine Mi.Wp.nx ?_ | refine Mi.Wp.rt ?_ | refine Mi.Wp.if_ ?_ | refine Mi.Wp.c ?_ | refine Mi.Wp.m2 ?_ | refine Mi.Wp.m1 ?_ | refine Mi.Wp.b ?_ | refine Mi.Wp.asB ?_ | refine Mi.Wp.and ?_ | refine Mi.Wp.or ?_ | refine Mi.Wp.not ?_ | refine Mi.Wp.andV ?_ | refine Mi.Wp.orV ?_ | refine Mi.Wp.notV ?_ | refine Mi.Wp.iteE ?_ | refine Mi.Wp.chain ?_ | refine Mi.Wp.nilA ?_ | refine Mi.Wp.consA ?_ | refine Mi.Wp.tup ?_ | refine Mi.Wp.lst ?_ | refine Mi.Wp.dict0 ?_ | refine Mi.Wp.noPart ?_ | refine Mi.Wp.part ?_ | refine Mi.Wp.sl ?_ | refine Mi.Wp.callB ?_ | refine Mi.Wp.meth ?_ | refine Mi.Wp.is ?_ | refine Mi.Wp.joinNil ?_ | refine Mi.Wp.joinCons ?_ | refine Mi.Wp.join ?_ | refine Mi.Wp.call ?_ | refine Mi.Wp.skip ?_ | refine Mi.Wp.brk ?_ | refine Mi.Wp.cnt ?_ | refine Mi.Wp.drop ?_ | refine Mi.Wp.ret ?_ | refine Mi.Wp.retN ?_ | refine Mi.Wp.asgN ?_ | refine Mi.Wp.store ?_ | refine Mi.Wp.itV ?_ | refine Mi.Wp.rng1 ?_ | refine Mi.Wp.yes ?_ | refine Mi.fnK.rt ?_ | refine Mi.fnK.nx ?_ | refine Mi.turnK.nx ?_ | refine Mi.turnK.rt ?_ | refine Mi.turnK.bk ?_ | refine Mi.turnK.ct ?_)
local macro_rules | `(tactic| walk_at "go") => `(tactic| repeat first | walk_at "mi" | walk_at "ml")
namespace Mi
open PySem
def bMix : MS := mSeq (mAsg (m2 modD (m2 mulD (m2 addD (m2 addD (mVar 0) (m2 mulD (mC (.int 7919)) (mVar 1))) (mC (.int 1))) (mC (.int 48271))) (mC (.int 2147483647))) (bN 0)) (mSeq (mAsg (m2 modD (m2 mulD (mVar 0) (m2 addD (m2 fdivD (mVar 0) (mC (.int 1009))) (mC (.int 69621)))) (mC (.int 2147483647))) (bN 0)) (mRet (m2 modD (m2 mulD (mVar 0) (m2 addD (m2 fdivD (mVar 0) (mC (.int 2003))) (mC (.int 40692)))) (mC (.int 2147483399)))))
def dMix : MF := mFn 2 2 bMix
def bDraw : MS := mSeq (mStore setD (mVar 0) (mC (.int 3)) (m2 addD (m2 ixD (mVar 0) (mC (.int 3))) (mC (.int 1)))) (mSeq (mIf (mAnd (mB (m2 leD (m2 ixD (mVar 0) (mC (.int 2))) (mC (.int 1)))) (mB (m2 ltD (m2 ixD (mVar 0) (mC (.int 1))) (mCallB lenD (mConsA (m2 ixD (mVar 0) (mC (.int 0))) (mNilA)))))) (mSeq (mAsg (m2 ixD (m2 ixD (mVar 0) (mC (.int 0))) (m2 ixD (mVar 0) (mC (.int 1)))) (bN 2)) (mSeq (mStore setD (mVar 0) (mC (.int 1)) (m2 addD (m2 ixD (mVar 0) (mC (.int 1))) (mC (.int 1)))) (mSeq (mStore setD (mVar 0) (mC (.int 4)) (m2 modD (mCallB intD (mConsA (m2 addD (m2 mulD (m2 ixD (mVar 0) (mC (.int 4))) (mC (.int 31))) (mVar 2)) (mNilA))) (mC (.int 2147483647)))) (mSeq (mStore setD (mVar 0) (mC (.int 2)) (mC (.int 0))) (mIf (mB (m2 geD (mVar 2) (m2 powD (mC (.int 10)) (mC (.int 18))))) (mStore setD (mVar 0) (mC (.int 2)) (mVar 2)) (mSkip)))))) (mSkip)) (mSeq (mIf (mB (m2 gtD (m2 ixD (mVar 0) (mC (.int 2))) (mC (.int 1)))) (mSeq (mAsg (m2 modD (mCallB intD (mConsA (m2 ixD (mVar 0) (mC (.int 2))) (mNilA))) (mVar 1)) (bN 3)) (mSeq (mStore setD (mVar 0) (mC (.int 2)) (m2 fdivD (m2 ixD (mVar 0) (mC (.int 2))) (mVar 1))) (mRet (mVar 3)))) (mSkip)) (mRet (m2 modD (m2 fdivD (mCall dMix 2 [] (mConsA (m2 ixD (mVar 0) (mC (.int 4))) (mConsA (m2 ixD (mVar 0) (mC (.int 3))) (mNilA)))) (mC (.int 16))) (mVar 1)))))
def dDraw : MF := mFn 2 4 bDraw
def bSrc : MS := mRet (mLst (mConsA (mCallB listD (mConsA (mSl (mVar 0) (mNoPart) (mPart (mC (.int 63)))) (mNilA))) (mConsA (mC (.int 0)) (mConsA (mC (.int 0)) (mConsA (mC (.int 0)) (mConsA (mC (.int 0)) (mNilA)))))))
def dSrc : MF := mFn 1 1 bSrc
theorem mul_r {S : So} {i j : Int} (h : -(2 ^ 64) < j ∧ j < 2 ^ 64) : mulD (.int i) (.int j) S = .ok (.int (i * j)) S := by
  unfold mulD
  simp only [if_pos (Or.inr h : (-(2 ^ 64) < i ∧ i < 2 ^ 64) ∨ (-(2 ^ 64) < j ∧ j < 2 ^ 64))]
theorem mul_l {S : So} {i j : Int} (h : -(2 ^ 64) < i ∧ i < 2 ^ 64) : mulD (.int i) (.int j) S = .ok (.int (i * j)) S := by
  unfold mulD
  simp only [if_pos (Or.inl h : (-(2 ^ 64) < i ∧ i < 2 ^ 64) ∨ (-(2 ^ 64) < j ∧ j < 2 ^ 64))]
theorem mod_ok {S : So} {i j : Int} (h : j ≠ 0) : modD (.int i) (.int j) S = .ok (.int (i.fmod j)) S := by
  unfold modD intOp
  simp only [if_pos h]
theorem fdiv_ok {S : So} {i j : Int} (h : j ≠ 0) (h2 : j.natAbs < 1073741824) : fdivD (.int i) (.int j) S = .ok (.int (i.fdiv j)) S := by
  unfold fdivD intOp
  simp only [if_pos (And.intro h h2 : j ≠ 0 ∧ j.natAbs < 1073741824)]
theorem fm_b (a : Int) : -(2 ^ 64) < a.fmod 2147483647 ∧ a.fmod 2147483647 < 2 ^ 64 := by
  have b1 : 0 ≤ a.fmod 2147483647 := Int.fmod_nonneg_of_pos _ (by decide)
  have b2 : a.fmod 2147483647 < 2147483647 := Int.fmod_lt_of_pos _ (by decide)
  omega
theorem mix_eq {n k : Int} {S : So} : Wp (dMix [.int n, .int k] S) (fun r S' => S' = S ∧ ∃ z, r = .int z) := by
  unfold dMix bMix
  walk_at "go"
  refine Wp.op2 (mul_r (by decide)) ?_
  walk_at "go"
  refine Wp.op2 (mul_l (fm_b _)) ?_
  walk_at "go"
  refine Wp.op2 (mul_l (fm_b _)) ?_
  walk_at "go"
  exact ⟨_, rfl⟩
/-- the source at s, over the cells at t -/
structure Src (s t : Nat) (cs : List Int) (i c d e : Int) (S : So) : Prop where
  at_ : S[s]? = some (.lst [.ref t, .int i, .int c, .int d, .int e])
  cl : S[t]? = some (.lst (cs.map D.int))
  ne : s ≠ t
  i0 : 0 ≤ i
  few : cs.length ≤ 63
/-- all but the source stays -/
def Keep (s : Nat) (S S' : So) : Prop := S'.length = S.length ∧ ∀ n, n ≠ s → S'[n]? = S[n]?
theorem Keep.refl {s : Nat} {S : So} : Keep s S S := ⟨rfl, fun _ _ => rfl⟩
theorem Keep.trans {s : Nat} {S S1 S2 : So} (a : Keep s S S1) (b : Keep s S1 S2) : Keep s S S2 := ⟨b.1.trans a.1, fun n h => (b.2 n h).trans (a.2 n h)⟩
section
variable {s t : Nat} {cs : List Int} {i c d e x : Int} {S : So}
theorem Src.lt (h : Src s t cs i c d e S) : s < S.length := (List.getElem?_eq_some_iff.mp h.at_).1
theorem src_set (h : Src s t cs i c d e S) {o : O} : (S.set s o)[s]? = some o ∧ (S.set s o)[t]? = S[t]? ∧ Keep s S (S.set s o) :=
  ⟨List.getElem?_set_self h.lt, List.getElem?_set_ne h.ne, List.length_set, fun n hn => List.getElem?_set_ne (Ne.symm hn)⟩
theorem src1 (h : Src s t cs i c d e S) (hx : 0 ≤ x) : ∃ S', setD (.ref s) (.int 1) (.int x) S = .ok () S' ∧ Src s t cs x c d e S' ∧ Keep s S S' := by
  obtain ⟨a, b, k⟩ := src_set h (o := .lst [.ref t, .int x, .int c, .int d, .int e])
  exact ⟨_, set_lst h.at_ (j := 1) rfl, ⟨a, b.trans h.cl, h.ne, hx, h.few⟩, k⟩
theorem src2 (h : Src s t cs i c d e S) : ∃ S', setD (.ref s) (.int 2) (.int x) S = .ok () S' ∧ Src s t cs i x d e S' ∧ Keep s S S' := by
  obtain ⟨a, b, k⟩ := src_set h (o := .lst [.ref t, .int i, .int x, .int d, .int e])
  exact ⟨_, set_lst h.at_ (j := 2) rfl, ⟨a, b.trans h.cl, h.ne, h.i0, h.few⟩, k⟩
theorem src3 (h : Src s t cs i c d e S) : ∃ S', setD (.ref s) (.int 3) (.int x) S = .ok () S' ∧ Src s t cs i c x e S' ∧ Keep s S S' := by
  obtain ⟨a, b, k⟩ := src_set h (o := .lst [.ref t, .int i, .int c, .int x, .int e])
  exact ⟨_, set_lst h.at_ (j := 3) rfl, ⟨a, b.trans h.cl, h.ne, h.i0, h.few⟩, k⟩
theorem src4 (h : Src s t cs i c d e S) : ∃ S', setD (.ref s) (.int 4) (.int x) S = .ok () S' ∧ Src s t cs i c d x S' ∧ Keep s S S' := by
  obtain ⟨a, b, k⟩ := src_set h (o := .lst [.ref t, .int i, .int c, .int d, .int x])
  exact ⟨_, set_lst h.at_ (j := 4) rfl, ⟨a, b.trans h.cl, h.ne, h.i0, h.few⟩, k⟩
/-- the source is whole -/
def St (s t : Nat) (S : So) : Prop := ∃ cs i c d e, Src s t cs i c d e S
/-- what a draw of one of many gives -/
def Drawn (s t : Nat) (many : Int) (S : So) (r : D) (S' : So) : Prop := St s t S' ∧ Keep s S S' ∧ ∃ k : Int, r = .int k ∧ 0 ≤ k ∧ k < many
theorem fmod_in {a many : Int} (h : 1 ≤ many) : 0 ≤ a.fmod many ∧ a.fmod many < many := ⟨Int.fmod_nonneg_of_pos _ (by omega), Int.fmod_lt_of_pos _ (by omega)⟩
theorem draw_end {many : Int} {S0 : So} (h : Src s t cs i c d e S) (k0 : Keep s S0 S) (h1 : 1 ≤ many) (h2 : many < 1073741824) {x y : Option D} {s2 : MS}
    (hs2 : s2 = mSeq (mIf (mB (m2 gtD (m2 ixD (mVar 0) (mC (.int 2))) (mC (.int 1)))) (mSeq (mAsg (m2 modD (mCallB intD (mConsA (m2 ixD (mVar 0) (mC (.int 2))) (mNilA))) (mVar 1)) (bN 3)) (mSeq (mStore setD (mVar 0) (mC (.int 2)) (m2 fdivD (m2 ixD (mVar 0) (mC (.int 2))) (mVar 1))) (mRet (mVar 3)))) (mSkip)) (mRet (m2 modD (m2 fdivD (mCall dMix 2 [] (mConsA (m2 ixD (mVar 0) (mC (.int 4))) (mConsA (m2 ixD (mVar 0) (mC (.int 3))) (mNilA)))) (mC (.int 16))) (mVar 1)))) :
    Wp (s2 [some (.ref s), some (.int many), x, y] S) (fnK (Drawn s t many S0)) := by
  subst hs2
  have hs := h.at_
  have hne : many ≠ 0 := by omega
  have hab : many.natAbs < 1073741824 := by omega
  walk_at "go"
  refine ⟨fun hc => ?_, fun hc => ?_⟩
  · walk_at "go"
    refine Wp.op2 (mod_ok hne) ?_
    walk_at "go"
    refine Wp.op2 (fdiv_ok hne hab) ?_
    walk_at "go"
    obtain ⟨S', e1, h', k'⟩ := src2 (x := c.fdiv many) h
    refine Wp.ok e1 ?_
    walk_at "go"
    exact ⟨⟨_, _, _, _, _, h'⟩, k0.trans k', _, rfl, fmod_in h1⟩
  · walk_at "go"
    refine mix_eq.mono ?_
    rintro r S' ⟨rfl, z, rfl⟩
    walk_at "go"
    refine Wp.op2 (mod_ok hne) ?_
    walk_at "go"
    exact ⟨⟨_, _, _, _, _, h⟩, k0, _, rfl, fmod_in h1⟩
theorem cell_at (h0 : 0 ≤ i) (h1 : i < ((cs.map D.int).length : Nat)) : ∃ z : Int, L2.atI (cs.map D.int) i = some (.int z) := by
  obtain ⟨j, rfl⟩ := Int.eq_ofNat_of_zero_le h0
  have hj : j < cs.length := by
    rw [List.length_map] at h1
    omega
  refine ⟨cs[j], ?_⟩
  unfold L2.atI L2.ixN
  rw [if_pos (Int.natCast_nonneg j), if_pos h1]
  simp [hj]
theorem draw_eq {many : Int} (h : St s t S) (h1 : 1 ≤ many) (h2 : many < 1073741824) : Wp (dDraw [.ref s, .int many] S) (Drawn s t many S) := by
  obtain ⟨cs, i, c, d, e, h⟩ := h
  unfold dDraw bDraw
  have hs := h.at_
  walk_at "go"
  obtain ⟨S1, e1, h', k1⟩ := src3 (x := d + 1) h
  refine Wp.ok e1 ?_
  clear e1 hs
  have hs := h'.at_
  have ht := h'.cl
  walk_at "go"
  refine ⟨fun hc => ?_, fun hc => ?_⟩
  · walk_at "go"
    refine ⟨fun hc2 => ?_, fun hc2 => ?_⟩
    · walk_at "go"
      obtain ⟨z, hz⟩ := cell_at (cs := cs) h'.i0 (of_decide_eq_true hc2)
      refine Wp.op2 (ix_lst ht hz) ?_
      walk_at "go"
      obtain ⟨S2, e2, g2, k2⟩ := src1 (x := i + 1) h' (by have := h'.i0; omega)
      refine Wp.ok e2 ?_
      clear e2 hs ht
      have hs := g2.at_
      walk_at "go"
      refine Wp.op2 (mul_r (by decide)) ?_
      walk_at "go"
      obtain ⟨S3, e3, g3, k3⟩ := src4 (x := (e * 31 + z).fmod 2147483647) g2
      refine Wp.ok e3 ?_
      clear e3 hs
      have hs := g3.at_
      walk_at "go"
      obtain ⟨S4, e4, g4, k4⟩ := src2 (x := 0) g3
      refine Wp.ok e4 ?_
      clear e4 hs
      have hs := g4.at_
      have kk := k1.trans (k2.trans (k3.trans k4))
      walk_at "go"
      refine ⟨fun hc3 => ?_, fun hc3 => ?_⟩
      · walk_at "go"
        obtain ⟨S5, e5, g5, k5⟩ := src2 (x := z) g4
        refine Wp.ok e5 ?_
        refine Wp.nx ?_
        exact draw_end g5 (kk.trans k5) h1 h2 rfl
      · refine Wp.skip ?_
        refine Wp.nx ?_
        exact draw_end g4 kk h1 h2 rfl
    · refine Wp.skip ?_
      refine Wp.nx ?_
      exact draw_end h' k1 h1 h2 rfl
  · refine Wp.bf (by rfl) ?_
    refine Wp.skip ?_
    refine Wp.nx ?_
    exact draw_end h' k1 h1 h2 rfl
end
/-- what stood stays, but the source -/
def Grw (s : Nat) (S S' : So) : Prop := S.length ≤ S'.length ∧ ∀ n, n < S.length → n ≠ s → S'[n]? = S[n]?
theorem Grw.refl {s : Nat} {S : So} : Grw s S S := ⟨Nat.le_refl _, fun _ _ _ => rfl⟩
theorem Grw.trans {s : Nat} {S S1 S2 : So} (a : Grw s S S1) (b : Grw s S1 S2) : Grw s S S2 := ⟨Nat.le_trans a.1 b.1, fun n h1 h2 => (b.2 n (Nat.lt_of_lt_of_le h1 a.1) h2).trans (a.2 n h1 h2)⟩
theorem Grw.keep {s : Nat} {S S' : So} (k : Keep s S S') : Grw s S S' := ⟨Nat.le_of_eq k.1.symm, fun n _ h => k.2 n h⟩
theorem Grw.app {s : Nat} {S T : So} : Grw s S (S ++ T) := ⟨by rw [List.length_append]; omega, fun n h _ => List.getElem?_append_left h⟩
theorem Grw.set {s n : Nat} {S S1 : So} {o : O} (k : Grw s S S1) (h : S.length ≤ n) : Grw s S (S1.set n o) := ⟨by rw [List.length_set]; exact k.1, fun m h1 h2 => by
  rw [List.getElem?_set_ne (by omega)]
  exact k.2 m h1 h2⟩
theorem St.app {s t : Nat} {S T : So} (h : St s t S) : St s t (S ++ T) := by
  obtain ⟨cs, i, c, d, e, h⟩ := h
  have l1 := (List.getElem?_eq_some_iff.mp h.at_).1
  have l2 := (List.getElem?_eq_some_iff.mp h.cl).1
  exact ⟨cs, i, c, d, e, ⟨(List.getElem?_append_left l1).trans h.at_, (List.getElem?_append_left l2).trans h.cl, h.ne, h.i0, h.few⟩⟩
theorem St.lt {s t : Nat} {S : So} (h : St s t S) : s < S.length ∧ t < S.length := by
  obtain ⟨cs, i, c, d, e, h⟩ := h
  exact ⟨(List.getElem?_eq_some_iff.mp h.at_).1, (List.getElem?_eq_some_iff.mp h.cl).1⟩
theorem St.set {s t n : Nat} {S : So} {o : O} (h : St s t S) (h1 : n ≠ s) (h2 : n ≠ t) : St s t (S.set n o) := by
  obtain ⟨cs, i, c, d, e, h⟩ := h
  exact ⟨cs, i, c, d, e, ⟨(List.getElem?_set_ne h1).trans h.at_, (List.getElem?_set_ne h2).trans h.cl, h.ne, h.i0, h.few⟩⟩
/-- a promise of what draws -/
def Pr (s t : Nat) (S : So) (P : D → So → Prop) : D → So → Prop := fun r S' => St s t S' ∧ Grw s S S' ∧ P r S'
theorem last_at {S : So} {o : O} : (S ++ [o])[S.length]? = some o := by simp
theorem src_eq {ns : List Int} (h : ns.length ≤ 63) : Wp (dSrc [.frl (ns.map D.int)] []) (fun r S' => r = .ref 2 ∧ St 2 1 S' ∧ S'.length = 3) := by
  unfold dSrc bSrc
  walk_at "go"
  refine Wp.ok rfl ?_
  walk_at "go"
  refine Wp.ok rfl ?_
  walk_at "go"
  have hc : cutD (ns.map D.int) none (some 63) = ns.map D.int := by
    refine cut_all ⟨rfl, ?_⟩
    rw [List.length_map]
    show (if (63 : Int) < 0 then ((63 : Int) + (ns.length : Int)).toNat else min (63 : Int).toNat ns.length) = ns.length
    rw [if_neg (by decide)]
    show min 63 ns.length = ns.length
    omega
  exact ⟨⟨ns, 0, 0, 0, 0, ⟨rfl, by rw [hc]; rfl, by decide, by decide, h⟩⟩, rfl⟩
end Mi
namespace Mi
open PySem PySem.Spec L2
/-! ### more steps -/
section
variable {ρ : Ro} {S : So} {Q : D → So → Prop} {T : Bool → So → Prop} {B : Fl × Ro → So → Prop} {P : IT → So → Prop} {m ma mb mc mo mv mk mi' : ME} {mt mu : MT} {mr : MA} {s s1 s2 : MS} {mi : MI} {bn : Bnd} {f : D → D → So → Rs D} {ok : Str → Bool} {fl C nm : Str} {F : MF} {n : Nat} {dds : List D} {md : MD} {g : Key × D → D}
theorem Wp.fld (h : Wp (m ρ S) fun d S1 => Wp (fldD ok fl d S1) Q) : Wp (mFld ok fl m ρ S) Q := h.bind
theorem fld_ins {k : Nat} {fs : List (Str × D)} {v : D} (h : S[k]? = some (.ins C fs)) (hk : ok C = true) (hl : fs.lookup fl = some v) : fldD ok fl (.ref k) S = .ok v S := by
  unfold fldD
  simp only [h, if_pos hk, hl]
theorem Wp.fst (h : Wp (mv ρ S) fun z S1 => Wp (mo ρ S1) fun d S2 => Wp (fstD ok fl d z S2) fun _ S3 => B (.nx, ρ) S3) : Wp (mFst ok fl mo mv ρ S) B :=
  Wp.bind (h.mono fun _ _ h => Wp.bind (h.mono fun _ _ h => Wp.bind h))
theorem fst_ins {k : Nat} {fs : List (Str × D)} {z : D} (h : S[k]? = some (.ins C fs)) (hk : ok C = true) (hl : fs.length < 1000) : fstD ok fl (.ref k) z S = .ok () (S.set k (.ins C (putA fl z fs))) := by
  unfold fstD
  simp only [h, if_pos (And.intro hk hl)]
theorem wp_out {r : Rs D} (h : Wp r Q) : Wp (match r with
      | .ok d S2 => .ok d S2
      | .ex c _ S2 => .ex c ρ S2
      | .stuck => .stuck) Q := by
  obtain ⟨d, S2, e, q⟩ := h.get
  rw [e]
  exact q
theorem Wp.methP (h : Wp (mo ρ S) fun d S1 => ∃ j fs, d = .ref j ∧ S1[j]? = some (.ins C fs) ∧ fs.lookup nm = none ∧ Wp (mr ρ S1) fun ds S2 => (d :: ds ++ dds).length = n ∧ Wp (F (d :: ds ++ dds) S2) Q) : Wp (mMethP C nm F n dds mo mr ρ S) Q :=
  Wp.bind (h.mono fun d S1 ⟨j, fs, e, h1, h2, h3⟩ => by
    subst e
    simp only [h1, h2, and_self, if_true]
    refine Wp.bind (h3.mono fun ds S2 h => Wp.pos h.1 (wp_out h.2)))
theorem Wp.make (h : Wp (mr ρ S) fun ds S1 => (.ref S1.length :: ds ++ dds : List D).length = n ∧ Wp (F (.ref S1.length :: ds ++ dds) (S1 ++ [.ins C []])) fun r S2 => r = .non ∧ Q (.ref S1.length) S2) : Wp (mMake C F n dds mr ρ S) Q :=
  Wp.bind (h.mono fun ds S1 h => Wp.pos h.1 (by
    obtain ⟨d, S2, e, rfl, q⟩ := h.2.get
    rw [e]
    exact q))
theorem Wp.call0 (h : Wp (mr ρ S) fun ds S1 => ds.length = n ∧ Wp (F ds S1) Q) : Wp (mCall F n [] mr ρ S) Q := Wp.call (h.mono fun ds S1 h => by
  rw [List.append_nil]
  exact h)
theorem Wp.methP0 (h : Wp (mo ρ S) fun d S1 => ∃ j fs, d = .ref j ∧ S1[j]? = some (.ins C fs) ∧ fs.lookup nm = none ∧ Wp (mr ρ S1) fun ds S2 => (d :: ds).length = n ∧ Wp (F (d :: ds) S2) Q) : Wp (mMethP C nm F n [] mo mr ρ S) Q := Wp.methP (h.mono fun d S1 ⟨j, fs, e, h1, h2, h3⟩ => ⟨j, fs, e, h1, h2, h3.mono fun ds S2 h => by
  rw [List.append_nil]
  exact h⟩)
theorem Wp.make0 (h : Wp (mr ρ S) fun ds S1 => (.ref S1.length :: ds : List D).length = n ∧ Wp (F (.ref S1.length :: ds) (S1 ++ [.ins C []])) fun r S2 => r = .non ∧ Q (.ref S1.length) S2) : Wp (mMake C F n [] mr ρ S) Q := Wp.make (h.mono fun ds S1 h => by
  rw [List.append_nil]
  exact h)
theorem Wp.prop (h : Wp (mo ρ S) fun d S1 => ∃ j fs, d = .ref j ∧ S1[j]? = some (.ins C fs) ∧ Wp (F [d] S1) Q) : Wp (mProp C F mo ρ S) Q :=
  Wp.bind (h.mono fun d S1 ⟨j, fs, e, h1, h3⟩ => by
    subst e
    simp only [h1, if_true]
    obtain ⟨d, S2, e, q⟩ := h3.get
    rw [e]
    exact q)
theorem Wp.lock {k : Nat} {kvs : List (Key × D)} (h1 : md ρ S = some k) (h2 : S[k]? = some (.dct kvs)) (h : Wp (s ρ (S.set k (.lck kvs))) fun p S' => (∃ k2, S'[k]? = some (.lck k2)) ∧ B p (S'.set k (.dct kvs))) : Wp (mLock md s ρ S) B := by
  obtain ⟨p, S', e, ⟨k2, h3⟩, h4⟩ := h.get
  unfold mLock
  simp only [h1, h2, e, h3]
  exact h4
theorem Wp.lockE {k : Nat} {kvs : List (Key × D)} (h1 : md ρ S = some k) (h2 : S[k]? = some (.dct kvs)) (h : Wp (m ρ (S.set k (.lck kvs))) fun p S' => (∃ k2, S'[k]? = some (.lck k2)) ∧ Q p (S'.set k (.dct kvs))) : Wp (mLockE md m ρ S) Q := by
  obtain ⟨p, S', e, ⟨k2, h3⟩, h4⟩ := h.get
  unfold mLockE
  simp only [h1, h2, e, h3]
  exact h4
theorem Wp.walk (h : Wp (m ρ S) fun d S1 => ∃ k kvs, d = .ref k ∧ S1[k]? = some (.lck kvs) ∧ P (.vals (kvs.map g)) S1) : Wp (mWalk g m ρ S) P :=
  Wp.bind (h.mono fun d S1 ⟨k, kvs, e, h1, h2⟩ => by
    subst e
    simp only [lckO, h1]
    exact h2)
theorem Wp.enumT (h : Wp (mr ρ S) fun ds S1 => ∃ xs, ds = [.tup xs] ∧ P (.vals (enumL 0 xs)) S1) : Wp (mEnumT mr ρ S) P :=
  Wp.bind (h.mono fun d S1 ⟨xs, e, h1⟩ => by
    subst e
    exact h1)
theorem md_var {i k : Nat} {kvs : List (Key × D)} (h1 : ρ[i]? = some (some (.ref k))) (h2 : S[k]? = some (.dct kvs)) : mdOf (mVar i) ρ S = some k := by
  unfold mdOf mVar
  simp only [h1, h2]
theorem Wp.augS (h : Wp (mo ρ S) fun d S1 => Wp (mi' ρ S1) fun e S2 => ∃ x, gixO S2 d e = some x ∧ Wp (m ρ S2) fun y S3 => Wp (f x y S3) fun z S4 => Wp (setD d e z S4) fun _ S5 => B (.nx, ρ) S5) : Wp (mAugS f mo mi' m ρ S) B :=
  Wp.bind (h.mono fun _ _ h => Wp.bind (h.mono fun _ _ ⟨x, e, h⟩ => by
    simp only [e]
    exact Wp.bind (h.mono fun _ _ h => Wp.bind (h.mono fun _ _ h => Wp.bind h))))
theorem Wp.pairsNil {R : List (D × D) → So → Prop} (h : R [] S) : Wp (pairsM [] ρ S) R := h
theorem Wp.pairsCons {R : List (D × D) → So → Prop} {r : List (ME × ME)} (h : Wp (mk ρ S) fun d S1 => Wp (mv ρ S1) fun e S2 => Wp (pairsM r ρ S2) fun ps S3 => R ((d, e) :: ps) S3) : Wp (pairsM ((mk, mv) :: r) ρ S) R :=
  Wp.bind (h.mono fun _ _ h => Wp.bind (h.mono fun _ _ h => Wp.bind h))
theorem Wp.disp {ms : List (ME × ME)} (h : Wp (pairsM ms ρ (S ++ [.dct []])) fun ps S1 => ∃ kvs, keysO ps = some kvs ∧ S1[S.length]? = some (.dct []) ∧ kvs.length ≤ 15 ∧ Q (.ref S.length) (S1.set S.length (.dct (mergeD [] kvs)))) : Wp (mDisp ms ρ S) Q :=
  Wp.bind (h.mono fun ps S1 ⟨kvs, h1, h2, h3, h4⟩ => by
    simp only [h1, h2, if_pos h3]
    exact h4)
/-- a walk over a list of the store that stays as it is -/
theorem lst_go {j : Nat} {ds : List D} (I : Nat → Ro → So → Prop) (hat : ∀ i ρ S, I i ρ S → S[j]? = some (.lst ds)) (hturn : ∀ i d ρ S, ds[i]? = some d → I i ρ S → ∃ ρ1, bn d ρ = some ρ1 ∧ Wp (s ρ1 S) (turnK (I (i + 1)) B)) (hend : ∀ ρ S, I ds.length ρ S → B (.nx, ρ) S) :
    ∀ (k i : Nat) (ρ : Ro) (S : So), i + k = ds.length → I i ρ S → Wp (forGo (.lst j) bn s k i ρ S) B
  | 0, i, ρ, S, e, h => by
    have : ds[i]? = none := List.getElem?_eq_none (by omega)
    unfold forGo
    simp only [IT.at, hat i ρ S h, this]
    have : i = ds.length := by omega
    subst this
    exact hend ρ S h
  | k + 1, i, ρ, S, e, h => by
    have hi : i < ds.length := by omega
    have hd : ds[i]? = some ds[i] := List.getElem?_eq_getElem hi
    obtain ⟨ρ1, hb, hw⟩ := hturn i _ ρ S hd h
    unfold forGo
    simp only [IT.at, hat i ρ S h, hd, hb]
    refine Wp.bind (hw.mono fun p S1 q => ?_)
    obtain ⟨f, ρ2⟩ := p
    cases f with
    | nx => exact lst_go I hat hturn hend k (i + 1) ρ2 S1 (by omega) q
    | ct => exact lst_go I hat hturn hend k (i + 1) ρ2 S1 (by omega) q
    | bk => exact q
    | rt d => exact q
theorem Wp.forS (h : Wp (mi ρ S) fun it S1 => ∃ j ds, it = .lst j ∧ ∃ I : Nat → Ro → So → Prop, I 0 ρ S1 ∧ (∀ i ρ S, I i ρ S → S[j]? = some (.lst ds)) ∧ (∀ i d ρ S, ds[i]? = some d → I i ρ S → ∃ ρ1, bn d ρ = some ρ1 ∧ Wp (s ρ1 S) (turnK (I (i + 1)) B)) ∧ (∀ ρ S, I ds.length ρ S → B (.nx, ρ) S)) : Wp (mFor mi bn s ρ S) B :=
  Wp.bind (h.mono fun it S1 ⟨j, ds, e, I, h0, hat, h1, h2⟩ => by
    subst e
    have hl : (IT.lst j).len S1 = ds.length := by
      show (match S1[j]? with | some (.lst ds) => ds.length | _ => 0) = ds.length
      rw [hat 0 ρ S1 h0]
    rw [hl]
    exact lst_go I hat h1 h2 ds.length 0 ρ S1 (by omega) h0)
/-- .. turn by turn -/
def loopS (j : Nat) (all : List D) (bn : Bnd) (s : MS) (B : Fl × Ro → So → Prop) : List D → Ro → So → Prop
  | [], ρ, S => S[j]? = some (.lst all) ∧ B (.nx, ρ) S
  | d :: ds, ρ, S => S[j]? = some (.lst all) ∧ ∃ ρ1, bn d ρ = some ρ1 ∧ Wp (s ρ1 S) (turnK (loopS j all bn s B ds) B)
theorem Wp.forSL (h : Wp (mi ρ S) fun it S1 => ∃ j ds, it = .lst j ∧ loopS j ds bn s B ds ρ S1) : Wp (mFor mi bn s ρ S) B := Wp.forS (h.mono fun it S1 ⟨j, ds, e, h⟩ => ⟨j, ds, e, fun i ρ S => loopS j ds bn s B (ds.drop i) ρ S, h, fun i ρ S h => by
  cases hd : ds.drop i with
  | nil => simp only [hd] at h; exact h.1
  | cons d r => simp only [hd] at h; exact h.1, fun i d ρ S hd h => by
  have : ds.drop i = d :: ds.drop (i + 1) := by
    have hi := (List.getElem?_eq_some_iff.mp hd).1
    rw [List.drop_eq_getElem_cons hi]
    congr 1
    exact (List.getElem?_eq_some_iff.mp hd).2
  simp only [this] at h
  exact h.2, fun ρ S h => by
  simp only [List.drop_length] at h
  exact h.2⟩)
/-- dict comprehensions over values that are known -/
theorem dc_go {ds : List D} {j : Nat} (I : Nat → So → Prop) (hturn : ∀ i d S, ds[i]? = some d → I i S → ∃ ρ1, bn d ρ = some ρ1 ∧ Wp (mt ρ1 S) fun c S1 => (c = true → Wp (mk ρ1 S1) fun y S2 => Wp (mv ρ1 S2) fun z S3 => ∃ ky acc, keyD y = some ky ∧ S3[j]? = some (.dct acc) ∧ acc.length < lim ∧ I (i + 1) (S3.set j (.dct (putD acc ky z)))) ∧ (c = false → I (i + 1) S1)) (hend : ∀ S, I ds.length S → Q (.ref j) S) :
    ∀ (k i : Nat) (S : So), i + k = ds.length → I i S → Wp (dcGo (.vals ds) bn mt mk mv j k i ρ S) Q
  | 0, i, S, e, h => by
    have : ds[i]? = none := List.getElem?_eq_none (by omega)
    unfold dcGo
    simp only [IT.at, this]
    have : i = ds.length := by omega
    subst this
    exact hend S h
  | k + 1, i, S, e, h => by
    have hi : i < ds.length := by omega
    have hd : ds[i]? = some ds[i] := List.getElem?_eq_getElem hi
    obtain ⟨ρ1, hb, hw⟩ := hturn i _ S hd h
    unfold dcGo
    simp only [IT.at, hd, hb]
    obtain ⟨c, S1, e1, h1⟩ := hw.get
    rw [e1]
    cases c with
    | false => exact dc_go I hturn hend k (i + 1) S1 (by omega) (h1.2 rfl)
    | true =>
      obtain ⟨y, S2, e2, h2⟩ := (h1.1 rfl).get
      obtain ⟨z, S3, e3, ky, acc, hk, e4, hl, h3⟩ := h2.get
      simp only [if_true, e2, e3, hk, e4, if_pos hl]
      exact dc_go I hturn hend k (i + 1) _ (by omega) h3
theorem Wp.dcV {vs : List Nat} (h : Wp (mi ρ S) fun it S1 => ∃ ds, it = .vals ds ∧ ∃ I : Nat → So → Prop, I 0 (S1 ++ [.dct []]) ∧
    (∀ i d S, ds[i]? = some d → I i S → ∃ ρ1, bn d (wipeR ρ vs) = some ρ1 ∧ Wp (mt ρ1 S) fun c S2 => (c = true → Wp (mk ρ1 S2) fun y S3 => Wp (mv ρ1 S3) fun z S4 => ∃ ky acc, keyD y = some ky ∧ S4[S1.length]? = some (.dct acc) ∧ acc.length < lim ∧ I (i + 1) (S4.set S1.length (.dct (putD acc ky z)))) ∧ (c = false → I (i + 1) S2)) ∧
    (∀ S, I ds.length S → Q (.ref S1.length) S)) : Wp (mDc mi bn mt mk mv vs ρ S) Q :=
  Wp.bind (h.mono fun it S1 ⟨ds, e, I, h0, h1, h2⟩ => by
    subst e
    exact dc_go I h1 h2 ds.length 0 _ (by omega) h0)
/-- a while, by a measure -/
theorem wh_go (I : Ro → So → Nat → Prop) (hturn : ∀ ρ S k, I ρ S k → Wp (mt ρ S) fun c S1 => (c = true → ∃ j, k = j + 1 ∧ Wp (s ρ S1) (turnK (fun ρ S => I ρ S j) B)) ∧ (c = false → B (.nx, ρ) S1)) :
    ∀ (n k : Nat) (ρ : Ro) (S : So), k < n → I ρ S k → Wp (whGo mt s n ρ S) B
  | 0, k, ρ, S, h, _ => by omega
  | n + 1, k, ρ, S, hn, h => by
    unfold whGo
    refine Wp.bind ((hturn ρ S k h).mono fun c S1 h1 => ?_)
    cases c with
    | false => exact h1.2 rfl
    | true =>
      obtain ⟨j, rfl, h2⟩ := h1.1 rfl
      refine Wp.bind (h2.mono fun p S2 q => ?_)
      obtain ⟨f, ρ2⟩ := p
      cases f with
      | nx => exact wh_go I hturn n j ρ2 S2 (by omega) q
      | ct => exact wh_go I hturn n j ρ2 S2 (by omega) q
      | bk => exact q
      | rt d => exact q
theorem Wp.whl {N : Nat} (I : Ro → So → Nat → Prop) (k : Nat) (hk : k < N) (h0 : I ρ S k) (hturn : ∀ ρ S k, I ρ S k → Wp (mt ρ S) fun c S1 => (c = true → ∃ j, k = j + 1 ∧ Wp (s ρ S1) (turnK (fun ρ S => I ρ S j) B)) ∧ (c = false → B (.nx, ρ) S1)) : Wp (mWhile N mt s ρ S) B := wh_go I hturn N k ρ S hk h0
/-- a comprehension over a list of the store -/
theorem lcs_go {ds : List D} {j n : Nat} (I : Nat → So → Prop) (hat : ∀ i S, I i S → S[j]? = some (.lst ds)) (hturn : ∀ i d S, ds[i]? = some d → I i S → ∃ ρ1, bn d ρ = some ρ1 ∧ Wp (mt ρ1 S) fun c S1 => (c = true → Wp (m ρ1 S1) fun y S2 => ∃ acc, S2[n]? = some (.lst acc) ∧ acc.length < lim ∧ I (i + 1) (S2.set n (.lst (acc ++ [y])))) ∧ (c = false → I (i + 1) S1)) (hend : ∀ S, I ds.length S → Q (.ref n) S) :
    ∀ (k i : Nat) (S : So), i + k = ds.length → I i S → Wp (lcGo (.lst j) bn mt m n k i ρ S) Q
  | 0, i, S, e, h => by
    have : ds[i]? = none := List.getElem?_eq_none (by omega)
    unfold lcGo
    simp only [IT.at, hat i S h, this]
    have : i = ds.length := by omega
    subst this
    exact hend S h
  | k + 1, i, S, e, h => by
    have hi : i < ds.length := by omega
    have hd : ds[i]? = some ds[i] := List.getElem?_eq_getElem hi
    obtain ⟨ρ1, hb, hw⟩ := hturn i _ S hd h
    unfold lcGo
    simp only [IT.at, hat i S h, hd, hb]
    obtain ⟨c, S1, e1, h1⟩ := hw.get
    rw [e1]
    cases c with
    | false => exact lcs_go I hat hturn hend k (i + 1) S1 (by omega) (h1.2 rfl)
    | true =>
      obtain ⟨y, S2, e2, acc, e3, hl, h2⟩ := (h1.1 rfl).get
      simp only [if_true, e2, e3, if_pos hl]
      exact lcs_go I hat hturn hend k (i + 1) _ (by omega) h2
theorem Wp.lcS {vs : List Nat} (h : Wp (mi ρ S) fun it S1 => ∃ j ds, it = .lst j ∧ ∃ I : Nat → So → Prop, I 0 (S1 ++ [.lst []]) ∧ (∀ i S, I i S → S[j]? = some (.lst ds)) ∧
    (∀ i d S, ds[i]? = some d → I i S → ∃ ρ1, bn d (wipeR ρ vs) = some ρ1 ∧ Wp (mt ρ1 S) fun c S2 => (c = true → Wp (m ρ1 S2) fun y S3 => ∃ acc, S3[S1.length]? = some (.lst acc) ∧ acc.length < lim ∧ I (i + 1) (S3.set S1.length (.lst (acc ++ [y])))) ∧ (c = false → I (i + 1) S2)) ∧
    (∀ S, I ds.length S → Q (.ref S1.length) S)) : Wp (mLc mi bn mt m vs ρ S) Q :=
  Wp.bind (h.mono fun it S1 ⟨j, ds, e, I, h0, hat, h1, h2⟩ => by
    subst e
    have hl : (IT.lst j).len (S1 ++ [.lst []]) = ds.length := by
      show (match (S1 ++ [O.lst []])[j]? with | some (.lst ds) => ds.length | _ => 0) = ds.length
      rw [hat 0 _ h0]
    rw [hl]
    exact lcs_go I hat h1 h2 ds.length 0 _ (by omega) h0)
end
/-! ### what a mirror gives or raises -/
def Wx {α : Type} (r : Rs α) (Q : α → So → Prop) (E : Exn → So → Prop) : Prop := match r with
  | .ok a S => Q a S
  | .ex c _ S => E c S
  | .stuck => False
section
variable {α γ : Type} {r : Rs α} {Q Q' : α → So → Prop} {E E' : Exn → So → Prop} {ρ : Ro} {S : So}
theorem Wp.wx (h : Wp r Q) : Wx r Q E := by
  obtain ⟨a, S, e, q⟩ := h.get
  rw [e]
  exact q
theorem Wx.mono (h : Wx r Q E) (hq : ∀ a S, Q a S → Q' a S) (he : ∀ c S, E c S → E' c S) : Wx r Q' E' := by
  cases r with
  | ok a S => exact hq a S h
  | ex c r S => exact he c S h
  | stuck => exact h.elim
theorem Wx.bind {f : α → So → Rs γ} {P : γ → So → Prop} (h : Wx r (fun a S => Wx (f a S) P E) E) : Wx (r.bind f) P E := by
  cases r with
  | ok a S => exact h
  | ex c r S => exact h
  | stuck => exact h.elim
theorem Wx.wp (h : Wx r Q fun _ _ => False) : Wp r Q := by
  cases r with
  | ok a S => exact h
  | ex c r S => exact h.elim
  | stuck => exact h.elim
theorem Wx.ex {c : Exn} {S' : So} (h : E c S') : Wx (.ex c ρ S' : Rs α) Q E := h
end
section
variable {ρ : Ro} {S : So} {Q : D → So → Prop} {E : Exn → So → Prop} {B : Fl × Ro → So → Prop} {m mo : ME} {mt : MT} {mr : MA} {s s1 s2 : MS} {bn : Bnd} {F : MF} {n : Nat} {dds : List D} {C nm fl : Str}
theorem wx_out {r : Rs D} (h : Wx r Q E) : Wx (match r with
      | .ok d S2 => .ok d S2
      | .ex c _ S2 => .ex c ρ S2
      | .stuck => .stuck) Q E := by
  cases r with
  | ok a S => exact h
  | ex c r S => exact h
  | stuck => exact h.elim
theorem Wx.call (h : Wp (mr ρ S) fun ds S1 => (ds ++ dds).length = n ∧ Wx (F (ds ++ dds) S1) Q E) : Wx (mCall F n dds mr ρ S) Q E := Wx.bind (h.wx.mono (fun ds S1 h => by
  rw [if_pos h.1]
  exact wx_out h.2) fun _ _ h => h)
theorem Wx.make (h : Wp (mr ρ S) fun ds S1 => (.ref S1.length :: ds ++ dds : List D).length = n ∧ Wx (F (.ref S1.length :: ds ++ dds) (S1 ++ [.ins C []])) (fun r S2 => r = .non ∧ Q (.ref S1.length) S2) E) : Wx (mMake C F n dds mr ρ S) Q E :=
  Wx.bind (h.wx.mono (fun ds S1 h => by
    rw [if_pos h.1]
    have h2 := h.2
    cases hr : F (.ref S1.length :: ds ++ dds) (S1 ++ [.ins C []]) with
    | ok d S2 =>
      rw [hr] at h2
      obtain ⟨rfl, q⟩ := h2
      exact q
    | ex c r S2 => rw [hr] at h2; exact h2
    | stuck => rw [hr] at h2; exact h2.elim) fun _ _ h => h)
theorem Wx.methP (h : Wp (mo ρ S) fun d S1 => ∃ j fs, d = .ref j ∧ S1[j]? = some (.ins C fs) ∧ fs.lookup nm = none ∧ Wp (mr ρ S1) fun ds S2 => (d :: ds ++ dds).length = n ∧ Wx (F (d :: ds ++ dds) S2) Q E) : Wx (mMethP C nm F n dds mo mr ρ S) Q E :=
  Wx.bind (h.wx.mono (fun d S1 ⟨j, fs, e, h1, h2, h3⟩ => by
    subst e
    simp only [h1, h2, and_self, if_true]
    refine Wx.bind (h3.wx.mono (fun ds S2 h => by
      rw [if_pos h.1]
      exact wx_out h.2) fun _ _ h => h)) fun _ _ h => h)
theorem Wx.seq (h : Wx (s1 ρ S) (fun p S1 => (p.1 = .nx → Wx (s2 p.2 S1) B E) ∧ (p.1 ≠ .nx → B p S1)) E) : Wx (mSeq s1 s2 ρ S) B E := Wx.bind (h.mono (fun p S1 h => by
  obtain ⟨f, ρ'⟩ := p
  cases f with
  | nx => exact h.1 rfl
  | bk => exact h.2 (fun z => by cases z)
  | ct => exact h.2 (fun z => by cases z)
  | rt d => exact h.2 (fun z => by cases z)) fun _ _ h => h)
theorem Wx.nx {s2 : MS} {ρ' : Ro} (h : Wx (s2 ρ' S) B E) : ((Fl.nx, ρ').1 = .nx → Wx (s2 (Fl.nx, ρ').2 S) B E) ∧ ((Fl.nx, ρ').1 ≠ .nx → B (Fl.nx, ρ') S) := ⟨fun _ => h, fun z => absurd rfl z⟩
theorem Wx.rt {s2 : MS} {ρ' : Ro} {d : D} (h : B (.rt d, ρ') S) : ((Fl.rt d, ρ').1 = .nx → Wx (s2 (Fl.rt d, ρ').2 S) B E) ∧ ((Fl.rt d, ρ').1 ≠ .nx → B (Fl.rt d, ρ') S) := ⟨(fun z => Fl.noConfusion z), fun _ => h⟩
theorem Wx.if_ (h : Wp (mt ρ S) fun c S1 => (c = true → Wx (s1 ρ S1) B E) ∧ (c = false → Wx (s2 ρ S1) B E)) : Wx (mIf mt s1 s2 ρ S) B E := Wx.bind (h.wx.mono (fun c S1 h => by
  cases c with
  | true => exact h.1 rfl
  | false => exact h.2 rfl) fun _ _ h => h)
theorem Wx.asg (h : Wx (m ρ S) (fun d S1 => ∃ ρ', bn d ρ = some ρ' ∧ B (.nx, ρ') S1) E) : Wx (mAsg m bn ρ S) B E := Wx.bind (h.mono (fun d S1 ⟨ρ', e, h⟩ => by
  simp only [e]
  exact h) fun _ _ h => h)
theorem Wx.asgN {i : Nat} (h : Wx (m ρ S) (fun d S1 => B (.nx, ρ.set i (some d)) S1) E) : Wx (mAsg m (bN i) ρ S) B E := Wx.asg (h.mono (fun d S1 h => ⟨_, rfl, h⟩) fun _ _ h => h)
theorem Wx.drop (h : Wx (m ρ S) (fun _ S1 => B (.nx, ρ) S1) E) : Wx (mDrop m ρ S) B E := Wx.bind h
theorem Wx.ret (h : Wx (m ρ S) (fun d S1 => B (.rt d, ρ) S1) E) : Wx (mRet m ρ S) B E := Wx.bind h
theorem Wx.raise (h : Wp (m ρ S) fun d S1 => E { cls := nm, fs := [(fl, d)] } S1) : Wx (mRaise nm fl m ρ S) B E := Wx.bind (h.wx.mono (fun _ _ h => h) fun _ _ h => h)
theorem Wx.fn {N : Nat} {ds : List D} (h : Wx (s (ds.map some ++ List.replicate (N - n) none) S) (fnK Q) E) : Wx (mFn n N s ds S) Q E := Wx.bind (h.mono (fun p S1 h => by
  obtain ⟨f, ρ'⟩ := p
  cases f with
  | nx => exact h
  | rt d => exact h
  | bk => exact h.elim
  | ct => exact h.elim) fun _ _ h => h)
/-- try: the raise's slots are those of the block's own level, i apart all may differ -/
theorem Wp.tryX {is : Is} {i : Nat} {mb : MS} {ms : Exn → MS} (hb : Wx (mb ρ S) B fun c S1 => is c.cls = some true ∧ ∀ ρ1 : Ro, mb ρ S = .ex c ρ1 S1 → i < ρ1.length ∧ Wp (ms c (ρ1.set i none) S1) fun p S2 => B (p.1, p.2.set i none) S2) : Wp (mTryAs is i mb ms ρ S) B := by
  unfold mTryAs
  cases hr : mb ρ S with
  | ok p S1 => rw [hr] at hb; exact hb
  | stuck => rw [hr] at hb; exact hb.elim
  | ex c ρ1 S1 =>
    rw [hr] at hb
    obtain ⟨h1, h2⟩ := hb
    obtain ⟨h3, h4⟩ := h2 ρ1 rfl
    simp only [h1, if_pos h3]
    obtain ⟨p, S2, e2, q⟩ := h4.get
    rw [e2]
    exact q
/-- the slots of a raise in a call that is stored are those ahead of it -/
theorem asg_make_ro {c : Exn} {ρ1 : Ro} {S1 : So} (hmr : Wp (mr ρ S) fun _ _ => True) (h : mAsg (mMake C F n dds mr) bn ρ S = .ex c ρ1 S1) : ρ1 = ρ := by
  obtain ⟨ds, S2, e, -⟩ := hmr.get
  unfold mAsg mMake at h
  rw [e] at h
  simp only [Rs.bind_ok] at h
  split at h
  · cases hr : F (.ref S2.length :: ds ++ dds) (S2 ++ [.ins C []]) with
    | ok d S3 =>
      rw [hr] at h
      cases d <;> simp only [Rs.bind_ok, Rs.bind_stuck] at h <;> first | (split at h <;> cases h) | cases h
    | ex c r S3 =>
      rw [hr] at h
      cases h
      rfl
    | stuck => rw [hr] at h; cases h
  · cases h
theorem drop_make_ro {c : Exn} {ρ1 : Ro} {S1 : So} (hmr : Wp (mr ρ S) fun _ _ => True) (h : mDrop (mMake C F n dds mr) ρ S = .ex c ρ1 S1) : ρ1 = ρ := by
  obtain ⟨ds, S2, e, -⟩ := hmr.get
  unfold mDrop mMake at h
  rw [e] at h
  simp only [Rs.bind_ok] at h
  split at h
  · cases hr : F (.ref S2.length :: ds ++ dds) (S2 ++ [.ins C []]) with
    | ok d S3 =>
      rw [hr] at h
      cases d <;> simp only [Rs.bind_ok, Rs.bind_stuck] at h <;> cases h
    | ex c r S3 =>
      rw [hr] at h
      cases h
      rfl
    | stuck => rw [hr] at h; cases h
  · cases h
theorem asg_call_ro {c : Exn} {ρ1 : Ro} {S1 : So} (hmr : Wp (mr ρ S) fun _ _ => True) (h : mAsg (mCall F n dds mr) bn ρ S = .ex c ρ1 S1) : ρ1 = ρ := by
  obtain ⟨ds, S2, e, -⟩ := hmr.get
  unfold mAsg mCall at h
  rw [e] at h
  simp only [Rs.bind_ok] at h
  split at h
  · cases hr : F (ds ++ dds) S2 with
    | ok d S3 =>
      rw [hr] at h
      simp only [Rs.bind_ok] at h
      split at h <;> cases h
    | ex c r S3 =>
      rw [hr] at h
      cases h
      rfl
    | stuck => rw [hr] at h; cases h
  · cases h
end
end Mi
namespace Mi
open PySem PySem.Spec L2
/-! ### plain sayings of what blocks are -/
def lowB (c : Nat) : Bool := !(Builtin.Str.occurrences ("abcdefghijklmnopqrstuvwxyz" : Str) ⟨#[c]⟩ 0 ("abcdefghijklmnopqrstuvwxyz" : Str).length 1).isEmpty
def nameS (x : Str) : Bool := decide (1 ≤ x.length) && decide (x.length ≤ 8) && x.cps.toList.all lowB
def nameB : D → Bool
  | .str x => nameS x
  | _ => false
def namesL : List Str → List D → Bool
  | _, [] => true
  | seen, .str x :: ds => nameS x && !(seen.contains x) && namesL (seen ++ [x]) ds
  | _, _ => false
def namesB (n : Nat) : D → Bool
  | .tup ds => decide (ds.length ≤ n) && namesL [] ds
  | _ => false
/-- a place: fields, a parent, classes, may a return stand there -/
structure Pl where
  fs : Option (List Str)
  hp : Bool
  kn : Option (List Str)
  mr : Bool
def Pl.fld (pl : Pl) : D → Bool
  | .str x => (match pl.fs with | some l => nameS x && l.contains x | none => false)
  | _ => false
def Pl.kls (pl : Pl) : D → Bool
  | .str x => (match pl.kn with | some l => nameS x && l.contains x | none => nameS x)
  | _ => false
def Pl.inner (pl : Pl) : Pl := { pl with mr := true }
mutual
def sR (c : Bool) (pl : Pl) (k : Int) : D → Bool
  | .tup (.str h :: ds) =>
    if h == "none" then ds.isEmpty
    else if h == "me" then ds.isEmpty && pl.fs.isSome
    else if h == "fn" then (match ds with | [ps, b] => namesB 3 ps && sB pl.inner (k + 1) b | _ => false)
    else if c && h == "call" then (match ds with | [s, ts] => sR false pl k s && sTs pl k ts | _ => false)
    else if c && h == "ask" then (match ds with | [s, m, ts] => sR false pl k s && (nameB m && sTs pl k ts) | _ => false)
    else if c && h == "parent" then (match ds with | [m, ts] => pl.hp && (nameB m && sTs pl k ts) | _ => false)
    else match ds with
      | [x] => if h == "field" then pl.fld x else if h == "new" then pl.kls x else (h == "word" || h == "name") && nameB x
      | _ => false
  | _ => false
def sTs (pl : Pl) (k : Int) : D → Bool
  | .tup ds => decide (ds.length ≤ 3) && sTl pl k ds
  | _ => false
def sTl (pl : Pl) (k : Int) : List D → Bool
  | [] => true
  | d :: ds => sR false pl k d && sTl pl k ds
def sT (l : Nat) (pl : Pl) (k : Int) : D → Bool
  | .tup (.str h :: ds) =>
    if l = 0 then false
    else if h == "same" then (match ds with | [a, b] => sR false pl k a && sR false pl k b | _ => false)
    else if h == "not" then (match ds with | [a] => sT (l - 1) pl k a | _ => false)
    else if h == "both" || h == "either" then (match ds with | [a, b] => sT (l - 1) pl k a && sT (l - 1) pl k b | _ => false)
    else false
  | _ => false
def sS (pl : Pl) (k : Int) : D → Bool
  | .tup (.str h :: ds) =>
    if h == "let" || h == "set" then (match ds with | [x, r] => nameB x && sR true pl k r | _ => false)
    else if h == "keep" then (match ds with | [x, r] => pl.fld x && sR true pl k r | _ => false)
    else if h == "print" then (match ds with | [r] => sR false pl k r | _ => false)
    else if h == "return" then (match ds with | [r] => pl.mr && sR true pl k r | _ => false)
    else if h == "do" || h == "raise" then (match ds with | [r] => sR true pl k r | _ => false)
    else if h == "if" then (match ds with | [t, a, b] => sT 3 pl k t && (sB pl (k + 1) a && sB pl (k + 1) b) | _ => false)
    else if h == "while" then (match ds with | [t, a] => sT 3 pl k t && sB pl (k + 1) a | _ => false)
    else if h == "try" then (match ds with | [a, x, b] => nameB x && (sB pl (k + 1) a && sB pl (k + 1) b) | _ => false)
    else if h == "last" then (match ds with | [a, b] => sB pl (k + 1) a && sB pl (k + 1) b | _ => false)
    else false
  | _ => false
def sSl (pl : Pl) (k : Int) : List D → Bool
  | [] => true
  | d :: ds => sS pl k d && sSl pl k ds
def sB (pl : Pl) (k : Int) : D → Bool
  | .tup ds => decide (ds.length ≤ 12) && (decide (k ≤ 8) && sSl pl k ds)
  | _ => false
end
/-! every part has a type that is known, and no text is too long -/
mutual
def okD (S : So) : D → Prop
  | .tup ds => okL S ds
  | .str x => x.length ≤ lim
  | .ref n => ∃ t, tyO S (.ref n) = some t
  | _ => True
def okL (S : So) : List D → Prop
  | [] => True
  | d :: ds => okD S d ∧ okL S ds
end
/-- the store has more behind -/
def Ext (S S' : So) : Prop := ∃ T, S' = S ++ T
theorem Ext.refl {S : So} : Ext S S := ⟨[], by simp⟩
theorem Ext.trans {S S1 S2 : So} (a : Ext S S1) (b : Ext S1 S2) : Ext S S2 := by
  obtain ⟨T, rfl⟩ := a
  obtain ⟨U, rfl⟩ := b
  exact ⟨T ++ U, by simp⟩
theorem Ext.app {S S1 T : So} (a : Ext S S1) : Ext S (S1 ++ T) := a.trans ⟨T, rfl⟩
theorem Ext.at_ {S S' : So} {n : Nat} {o : O} (e : Ext S S') (h : S[n]? = some o) : S'[n]? = some o := by
  obtain ⟨T, rfl⟩ := e
  rw [List.getElem?_append_left (List.getElem?_eq_some_iff.mp h).1]
  exact h
theorem Ext.ty {S S' : So} {d : D} {t : Ty} (e : Ext S S') (h : tyO S d = some t) : tyO S' d = some t := by
  cases d with
  | ref n =>
    unfold tyO at h ⊢
    simp only at h ⊢
    split at h
    · rename_i hs; rw [e.at_ hs]; exact h
    · rename_i hs; rw [e.at_ hs]; exact h
    · rename_i hs; rw [e.at_ hs]; exact h
    · cases h
  | _ => exact h
mutual
theorem Ext.ok {S S' : So} (e : Ext S S') : ∀ {d : D}, okD S d → okD S' d
  | .tup ds, h => by unfold okD at h ⊢; exact Ext.okL e h
  | .str x, h => h
  | .ref n, h => by unfold okD at h ⊢; obtain ⟨t, h⟩ := h; exact ⟨t, e.ty h⟩
  | .non, _ => trivial
  | .bl _, _ => trivial
  | .int _, _ => trivial
  | .frl _, _ => trivial
theorem Ext.okL {S S' : So} (e : Ext S S') : ∀ {ds : List D}, okL S ds → okL S' ds
  | [], _ => trivial
  | d :: ds, h => by unfold Mi.okL at h ⊢; exact ⟨Ext.ok e h.1, Ext.okL e h.2⟩
end
theorem okD.ty {S : So} {d : D} (h : okD S d) : ∃ t, tyO S d = some t := by
  cases d with
  | ref n => unfold okD at h; exact h
  | non => exact ⟨_, rfl⟩
  | bl _ => exact ⟨_, rfl⟩
  | int _ => exact ⟨_, rfl⟩
  | str _ => exact ⟨_, rfl⟩
  | tup _ => exact ⟨_, rfl⟩
  | frl _ => exact ⟨_, rfl⟩
theorem ref_ty {S : So} {n : Nat} {t : Ty} (h : tyO S (.ref n) = some t) : t = .lst ∨ t = .dct := by
  unfold tyO at h
  simp only at h
  split at h <;> first | (cases h; exact .inl rfl) | (cases h; exact .inr rfl) | cases h
/-- is it a tuple, a text -/
def isTupB : D → Bool
  | .tup _ => true
  | _ => false
def isStrB : D → Bool
  | .str _ => true
  | _ => false
theorem okD.isTup {S : So} {d : D} (h : okD S d) : ∃ t, tyO S d = some t ∧ isTy t .tup = isTupB d := by
  cases d with
  | ref n =>
    unfold okD at h
    obtain ⟨t, h⟩ := h
    refine ⟨t, h, ?_⟩
    rcases ref_ty h with rfl | rfl <;> rfl
  | non => exact ⟨_, rfl, rfl⟩
  | bl _ => exact ⟨_, rfl, rfl⟩
  | int _ => exact ⟨_, rfl, rfl⟩
  | str _ => exact ⟨_, rfl, rfl⟩
  | tup _ => exact ⟨_, rfl, rfl⟩
  | frl _ => exact ⟨_, rfl, rfl⟩
theorem okD.isStr {S : So} {d : D} (h : okD S d) : ∃ t, tyO S d = some t ∧ isTy t .str = isStrB d := by
  cases d with
  | ref n =>
    unfold okD at h
    obtain ⟨t, h⟩ := h
    refine ⟨t, h, ?_⟩
    rcases ref_ty h with rfl | rfl <;> rfl
  | non => exact ⟨_, rfl, rfl⟩
  | bl _ => exact ⟨_, rfl, rfl⟩
  | int _ => exact ⟨_, rfl, rfl⟩
  | str _ => exact ⟨_, rfl, rfl⟩
  | tup _ => exact ⟨_, rfl, rfl⟩
  | frl _ => exact ⟨_, rfl, rfl⟩
theorem len_str {S : So} {x : Str} (h : x.length ≤ lim) : lenD [.str x] S = .ok (.int x.length) S := by
  unfold lenD lenO vw
  simp only [if_pos h]
theorem len_tup {S : So} {ds : List D} : lenD [.tup ds] S = .ok (.int ds.length) S := rfl
/-- a place in the store -/
def encN : Option (List Str) → D
  | none => .non
  | some l => .tup (l.map .str)
def Pl.obj (pl : Pl) : O := .ins "Place" [("fields", encN pl.fs), ("has_parent", .bl pl.hp), ("known", encN pl.kn), ("may_return", .bl pl.mr)]
def Plc (S : So) (p : Nat) (pl : Pl) : Prop := S[p]? = some pl.obj
theorem Plc.ext {S0 S : So} {p : Nat} {pl : Pl} (h : Plc S0 p pl) (e : Ext S0 S) : Plc S p pl := e.at_ h
theorem notN_enc {S : So} {o : Option (List Str)} : notND (encN o) S = .ok (.bl o.isSome) S := by cases o <;> rfl
theorem isN_enc {S : So} {o : Option (List Str)} : isND (encN o) S = .ok (.bl o.isNone) S := by cases o <;> rfl
theorem plc_last {S : So} {pl : Pl} : Plc (S ++ [pl.obj]) S.length pl := last_at
theorem len_eq_f {l : List D} {k : Int} (h : k < (l.length : Nat)) : (((l.length : Nat) : Int) == k) = false := by
  rw [beq_eq_false_iff_ne]
  omega
theorem len_ne_t {l : List D} {k : Int} (h : k < (l.length : Nat)) : (!(((l.length : Nat) : Int) == k)) = true := by rw [len_eq_f h]; rfl
theorem inL_strs {S : So} {x : Str} : ∀ l : List Str, inL (eqB false S 100) (.str x) (l.map .str) = some (l.contains x)
  | [] => rfl
  | y :: l => by
    have h1 : eqB false S 100 (.str y) (.str x) = some (y == x) := rfl
    rw [List.map_cons]
    unfold inL
    rw [h1, inL_strs l, List.contains_cons]
    show some (y == x || l.contains x) = some (x == y || l.contains x)
    congr 2
    by_cases h : x = y
    · rw [h]
    · rw [beq_eq_false_iff_ne.mpr h, beq_eq_false_iff_ne.mpr (Ne.symm h)]
theorem in_strs {S : So} {x : Str} {l : List Str} : inD (.str x) (.tup (l.map .str)) S = .ok (.bl (l.contains x)) S := by
  unfold inD inO vw
  simp only [inL_strs]
theorem in_two {S : So} {x a b : Str} : inD (.str x) (.tup [.str a, .str b]) S = .ok (.bl (x == a || x == b)) S := by
  have h : ([a, b] : List Str).contains x = (x == a || x == b) := by
    rw [List.contains_cons, List.contains_cons, List.contains_nil, Bool.or_false]
  rw [← h]
  exact in_strs (l := [a, b])
theorem notIn_two {S : So} {x a b : Str} : notInD (.str x) (.tup [.str a, .str b]) S = .ok (.bl (!(x == a || x == b))) S := by
  unfold notInD inO vw
  have := inL_strs (S := S) (x := x) [a, b]
  simp only [List.map_cons, List.map_nil] at this
  simp only [this]
  rw [List.contains_cons, List.contains_cons, List.contains_nil, Bool.or_false]
theorem notIn_strs {S : So} {x : Str} {l : List Str} : notInD (.str x) (.tup (l.map .str)) S = .ok (.bl (!(l.contains x))) S := by
  unfold notInD inO vw
  simp only [inL_strs]
end Mi
namespace Mi
open PySem PySem.Spec L2
/-! ### classes, plainly -/
def okK (S : So) (kvs : List (Key × D)) : Prop := ∀ p ∈ kvs, okD S (kD p.1) ∧ okD S p.2
def emptyT : D → Bool
  | .tup [] => true
  | _ => false
def fieldK (p : Key × D) : Bool := nameB (kD p.1) && (namesB 4 p.2 && !emptyT p.2)
def methK (p : Key × D) : Bool := nameB (kD p.1) && (match p.2 with
  | .tup [ps, _] => namesB 3 ps
  | _ => false)
def dictB (f : List (Key × D) → Bool) (S : So) : D → Bool
  | .ref n => (match S[n]? with
    | some (.dct kvs) => f kvs
    | _ => false)
  | _ => false
def fieldsK (kvs : List (Key × D)) : Bool := decide (kvs.length ≤ 3) && kvs.all fieldK
def methsK (kvs : List (Key × D)) : Bool := decide (kvs.length ≤ 5) && kvs.all methK
def parOk : D → Bool
  | .non => true
  | d => nameB d
def markB : D → Bool
  | .str x => x == "open" || x == "closed"
  | _ => false
def outB (S : So) : D → Bool
  | .tup [p, m, f, g] => parOk p && (markB m && (dictB fieldsK S f && dictB methsK S g))
  | _ => false
/-- a value that is a dict has good entries -/
def okF (S : So) (x : D) : Prop := okD S x ∧ ∀ j, x = .ref j → (∃ l, S[j]? = some (.lst l)) ∨ ∃ kvs, S[j]? = some (.dct kvs) ∧ okK S kvs
def okC (S : So) (d : D) : Prop := okD S d ∧ ∀ p m f g, d = .tup [p, m, f, g] → okF S f ∧ okF S g
mutual
theorem okD_ty {S S' : So} (h : ∀ n t, tyO S (.ref n) = some t → ∃ t', tyO S' (.ref n) = some t') : ∀ {d : D}, okD S d → okD S' d
  | .tup ds, q => by unfold okD at q ⊢; exact okL_ty h q
  | .str x, q => q
  | .ref n, q => by unfold okD at q ⊢; obtain ⟨t, q⟩ := q; exact h n t q
  | .non, _ => trivial
  | .bl _, _ => trivial
  | .int _, _ => trivial
  | .frl _, _ => trivial
theorem okL_ty {S S' : So} (h : ∀ n t, tyO S (.ref n) = some t → ∃ t', tyO S' (.ref n) = some t') : ∀ {ds : List D}, okL S ds → okL S' ds
  | [], _ => trivial
  | d :: ds, q => by unfold okL at q ⊢; exact ⟨okD_ty h q.1, okL_ty h q.2⟩
end
theorem set_at {S : So} {n : Nat} {o o' : O} (h : S[n]? = some o) : (S.set n o')[n]? = some o' := List.getElem?_set_self (List.getElem?_eq_some_iff.mp h).1
theorem set_back {S : So} {n : Nat} {o o' : O} (h : S[n]? = some o) : (S.set n o').set n o = S := by
  apply List.ext_getElem?
  intro i
  by_cases hi : i = n
  · subst hi
    rw [set_at (set_at (o' := o') h), h]
  · rw [List.getElem?_set_ne (Ne.symm hi), List.getElem?_set_ne (Ne.symm hi)]
theorem okD_lck {S : So} {n : Nat} {kvs : List (Key × D)} (h : S[n]? = some (.dct kvs)) {d : D} (o : okD S d) : okD (S.set n (.lck kvs)) d := okD_ty (fun m t ht => by
  by_cases hm : m = n
  · subst hm
    refine ⟨.dct, ?_⟩
    unfold tyO
    simp only [set_at h]
  · refine ⟨t, ?_⟩
    unfold tyO at ht ⊢
    simp only [List.getElem?_set_ne (Ne.symm hm)]
    exact ht) o
theorem okF_lck {S : So} {n : Nat} {kvs : List (Key × D)} (h : S[n]? = some (.dct kvs)) {d : D} (o : okF S d) (hd : d ≠ .ref n) : okF (S.set n (.lck kvs)) d := by
  refine ⟨okD_lck h o.1, fun j e => ?_⟩
  subst e
  have hj : j ≠ n := fun z => hd (by rw [z])
  rw [List.getElem?_set_ne (Ne.symm hj)]
  rcases o.2 j rfl with q | ⟨k2, q, r⟩
  · exact .inl q
  · exact .inr ⟨k2, q, fun p hp => ⟨okD_lck h (r p hp).1, okD_lck h (r p hp).2⟩⟩
theorem dictB_lck {f : List (Key × D) → Bool} {S : So} {n : Nat} {o : O} {d : D} (hd : d ≠ .ref n) : dictB f (S.set n o) d = dictB f S d := by
  cases d with
  | ref j =>
    have hj : j ≠ n := fun z => hd (by rw [z])
    unfold dictB
    simp only [List.getElem?_set_ne (Ne.symm hj)]
  | _ => rfl
theorem len_dct {S : So} {n : Nat} {kvs : List (Key × D)} (h : S[n]? = some (.dct kvs)) : lenD [.ref n] S = .ok (.int kvs.length) S := by
  unfold lenD lenO vw
  simp only [h]
theorem tyr_dct {S : So} {n : Nat} {kvs : List (Key × D)} (h : S[n]? = some (.dct kvs)) : tyO S (.ref n) = some .dct := by
  unfold tyO
  simp only [h]
theorem tyr_lst {S : So} {n : Nat} {l : List D} (h : S[n]? = some (.lst l)) : tyO S (.ref n) = some .lst := by
  unfold tyO
  simp only [h]
theorem all_take' {α : Type} {f : α → Bool} {l : List α} {i : Nat} {x : α} (hx : l[i]? = some x) (h : (l.take i).all f = true) (hf : f x = true) : (l.take (i + 1)).all f = true := by
  rw [List.take_add_one, hx]
  simp [List.all_append, hf]
  simpa using h
theorem all_no' {α : Type} {f : α → Bool} {l : List α} {i : Nat} {x : α} (hx : l[i]? = some x) (hf : f x = false) : l.all f = false := by
  rw [List.all_eq_false]
  exact ⟨x, List.mem_of_getElem? hx, by simp [hf]⟩
theorem get_map {α β : Type} {f : α → β} {l : List α} {i : Nat} {y : β} (h : (l.map f)[i]? = some y) : ∃ x, l[i]? = some x ∧ f x = y := by
  rw [List.getElem?_map] at h
  cases hx : l[i]? with
  | none => rw [hx] at h; cases h
  | some x =>
    rw [hx] at h
    cases h
    exact ⟨x, rfl, rfl⟩
theorem ix_dct {S : So} {n : Nat} {kvs : List (Key × D)} {d z : D} {k : Key} (h : S[n]? = some (.dct kvs)) (hk : keyD d = some k) (hv : valD kvs k = some z) : ixD (.ref n) d S = .ok z S := by
  unfold ixD ixO vw
  simp only [h, hk, hv, Option.bind_some]
theorem ix_lck {S : So} {n : Nat} {kvs : List (Key × D)} {d z : D} {k : Key} (h : S[n]? = some (.lck kvs)) (hk : keyD d = some k) (hv : valD kvs k = some z) : ixD (.ref n) d S = .ok z S := by
  unfold ixD ixO vw
  simp only [h, lckO, hk, hv, Option.bind_some]
theorem in_dct {S : So} {n : Nat} {kvs : List (Key × D)} {d : D} {k : Key} (h : S[n]? = some (.dct kvs)) (hk : keyD d = some k) : inD d (.ref n) S = .ok (.bl (valD kvs k).isSome) S := by
  unfold inD inO vw
  simp only [h, hk, Option.map_some]
theorem notIn_dct {S : So} {n : Nat} {kvs : List (Key × D)} {d : D} {k : Key} (h : S[n]? = some (.dct kvs)) (hk : keyD d = some k) : notInD d (.ref n) S = .ok (.bl (!(valD kvs k).isSome)) S := by
  unfold notInD inO vw
  simp only [h, hk, Option.map_some]
theorem notIn_lck {S : So} {n : Nat} {kvs : List (Key × D)} {d : D} {k : Key} (h : S[n]? = some (.lck kvs)) (hk : keyD d = some k) : notInD d (.ref n) S = .ok (.bl (!(valD kvs k).isSome)) S := by
  unfold notInD inO vw
  simp only [h, lckO, hk, Option.map_some, Option.bind_some]
/-! a class above another -/
def clsPar : D → D
  | .tup (p :: _) => p
  | _ => .non
def clsMark : D → D
  | .tup (_ :: m :: _) => m
  | _ => .non
def endsGo (kvs : List (Key × D)) : Nat → D → Bool
  | 0, _ => false
  | n + 1, d => match d with
    | .non => true
    | .str x => (match valD kvs (.inr x) with
      | some c => (match clsMark c with | .str m => m == "open" | _ => false) && endsGo kvs n (clsPar c)
      | none => false)
    | _ => false
def endsB (kvs : List (Key × D)) (k : Key) : Bool := match valD kvs k with
  | some c => endsGo kvs 8 (clsPar c)
  | none => false
def outsK (S : So) (kvs : List (Key × D)) : Bool := decide (kvs.length ≤ 8) && (kvs.all fun p => nameB (kD p.1) && outB S p.2) && kvs.all fun p => endsB kvs p.1
end Mi
namespace Mi
open PySem PySem.Spec L2
/-! ### data without references, and how deep it is -/
mutual
def flat : D → Bool
  | .tup ds => flatL ds
  | .frl _ => false
  | .ref _ => false
  | _ => true
def flatL : List D → Bool
  | [] => true
  | d :: ds => flat d && flatL ds
end
mutual
def dep : D → Nat
  | .tup ds => 1 + depL ds
  | .frl ds => 1 + depL ds
  | _ => 0
def depL : List D → Nat
  | [] => 0
  | d :: ds => max (dep d) (depL ds)
end
mutual
theorem eqB_self {dk : Bool} {S : So} : ∀ (n : Nat) (d : D), flat d = true → dep d < n → eqB dk S n d d = some true
  | 0, _, _, h => by omega
  | n + 1, .tup ds, hf, hd => by
    have h1 : flatL ds = true := by simpa [flat] using hf
    have h2 : depL ds < n := by simp only [dep] at hd; omega
    have := eqL_self (dk := dk) (S := S) n ds h1 h2
    show (if sameRef (.tup ds) (.tup ds) then some true else eqW dk (eqB dk S n) (.tup ds) (.tup ds)) = some true
    simp only [sameRef, Bool.false_eq_true, if_false, eqW, this]
  | n + 1, .frl ds, hf, _ => by simp [flat] at hf
  | n + 1, .ref m, hf, _ => by simp [flat] at hf
  | n + 1, .non, _, _ => rfl
  | n + 1, .bl b, _, _ => by simp [eqB, sameRef, vw, eqW]
  | n + 1, .int i, _, _ => by simp [eqB, sameRef, vw, eqW]
  | n + 1, .str x, _, _ => by simp [eqB, sameRef, vw, eqW]
theorem eqL_self {dk : Bool} {S : So} : ∀ (n : Nat) (ds : List D), flatL ds = true → depL ds < n → eqL (eqB dk S n) ds ds = some true
  | _, [], _, _ => rfl
  | n, d :: ds, hf, hd => by
    simp only [flatL, Bool.and_eq_true] at hf
    simp only [depL] at hd
    have h1 := eqB_self (dk := dk) (S := S) n d hf.1 (by omega)
    have h2 := eqL_self (dk := dk) (S := S) n ds hf.2 (by omega)
    simp only [eqL, h1, h2, Bool.and_self]
end
theorem eqD_self {S : So} {d : D} (hf : flat d = true) (hd : dep d ≤ 100) : eqD d d S = .ok (.bl true) S := by
  have h : eqO S d d = some true := by
    have := eqB_self (dk := true) (S := S) 101 d hf (by omega)
    have q : eqB true S 101 d d = if sameRef d d then some true else eqW true (eqB true S 100) (vw S d) (vw S d) := rfl
    rw [q] at this
    have : sameRef d d = false := by cases d <;> first | rfl | simp [flat] at hf
    rename_i t
    rw [this] at t
    exact t
  unfold eqD
  simp only [h]
theorem okD_flat {S : So} : ∀ {d : D}, True := fun {_} => trivial
theorem nameB_str {d : D} (h : nameB d = true) : ∃ x, d = .str x ∧ nameS x = true := by
  cases d with
  | str x => exact ⟨x, rfl, h⟩
  | _ => cases h
theorem fld_str {pl : Pl} {d : D} (h : pl.fld d = true) : ∃ x, d = .str x := by
  cases d with
  | str x => exact ⟨x, rfl⟩
  | _ => cases h
theorem kls_str {pl : Pl} {d : D} (h : pl.kls d = true) : ∃ x, d = .str x := by
  cases d with
  | str x => exact ⟨x, rfl⟩
  | _ => cases h
theorem namesL_flat : ∀ {seen : List Str} {ds : List D}, namesL seen ds = true → flatL ds = true ∧ depL ds = 0
  | _, [], _ => ⟨rfl, rfl⟩
  | seen, .str x :: ds, h => by
    simp only [namesL, Bool.and_eq_true] at h
    obtain ⟨h1, h2⟩ := namesL_flat h.2
    simp [flatL, flat, depL, dep, h1, h2]
  | _, .non :: _, h => by simp [namesL] at h
  | _, .bl _ :: _, h => by simp [namesL] at h
  | _, .int _ :: _, h => by simp [namesL] at h
  | _, .tup _ :: _, h => by simp [namesL] at h
  | _, .frl _ :: _, h => by simp [namesL] at h
  | _, .ref _ :: _, h => by simp [namesL] at h
theorem namesB_flat {n : Nat} {d : D} (h : namesB n d = true) : flat d = true ∧ dep d = 1 := by
  cases d with
  | tup ds =>
    simp only [namesB, Bool.and_eq_true] at h
    obtain ⟨h1, h2⟩ := namesL_flat h.2
    simp [flat, dep, h1, h2]
  | _ => cases h
/-- flat, and no deeper than that -/
def FD (n : Int) (d : D) : Prop := flat d = true ∧ (dep d : Int) ≤ n
theorem FD.str {n : Int} {x : Str} (h : 0 ≤ n) : FD n (.str x) := ⟨rfl, by simpa [dep] using h⟩
theorem FD.mono {n m : Int} {d : D} (h : FD n d) (e : n ≤ m) : FD m d := ⟨h.1, by have := h.2; omega⟩
theorem FD.names {k : Nat} {n : Int} {d : D} (h : namesB k d = true) (hn : 1 ≤ n) : FD n d := ⟨(namesB_flat h).1, by rw [(namesB_flat h).2]; omega⟩
def FDL (n : Int) (ds : List D) : Prop := flatL ds = true ∧ (depL ds : Int) ≤ n
theorem FDL.nil {n : Int} (h : 0 ≤ n) : FDL n [] := ⟨rfl, by simpa [depL] using h⟩
theorem FDL.cons {n : Int} {d : D} {ds : List D} (h : FD n d) (r : FDL n ds) : FDL n (d :: ds) := ⟨by simp [flatL, h.1, r.1], by
  have := h.2
  have := r.2
  simp only [depL]
  omega⟩
theorem FD.tup {n m : Int} {ds : List D} (h : FDL n ds) (e : n + 1 ≤ m) : FD m (.tup ds) := ⟨by simp [flat, h.1], by
  have := h.2
  simp only [dep]
  omega⟩
mutual
theorem sR_flat (c : Bool) (pl : Pl) (k : Int) : ∀ d : D, sR c pl k d = true → k ≤ 8 → FD (6 * (8 - k) + if c then 3 else 1) d
  | .tup [.str h], q, hk => FD.tup (n := 6 * (8 - k)) (.cons (.str (by omega)) (.nil (by omega))) (by split <;> omega)
  | .tup [.str h, a], q, hk => by
    refine FD.tup (n := 6 * (8 - k)) (.cons (.str (by omega)) (.cons ?_ (.nil (by omega)))) (by split <;> omega)
    unfold sR at q
    simp only [List.isEmpty_cons, Bool.false_and] at q
    have : ∃ x, a = .str x := by
      split at q
      · cases q
      split at q
      · cases q
      split at q
      · cases q
      split at q
      · cases q
      split at q
      · cases q
      split at q
      · cases q
      split at q
      · exact fld_str q
      split at q
      · exact kls_str q
      rw [Bool.and_eq_true] at q
      obtain ⟨x, hx, -⟩ := nameB_str q.2
      exact ⟨x, hx⟩
    obtain ⟨x, rfl⟩ := this
    exact .str (by omega)
  | .tup [.str h, a, b], q, hk => by
    unfold sR at q
    simp only [List.isEmpty_cons, Bool.false_and] at q
    split at q
    · cases q
    split at q
    · cases q
    split at q
    · rw [Bool.and_eq_true] at q
      have hk8 : k + 1 ≤ 8 := by
        have := q.2
        cases b with
        | tup ds => simp only [sB, Bool.and_eq_true, decide_eq_true_eq] at this; exact this.2.1
        | _ => simp [sB] at this
      have hb := sB_flat pl.inner (k + 1) b q.2
      exact FD.tup (n := 6 * (8 - k)) (.cons (.str (by omega)) (.cons (.names q.1 (by omega)) (.cons (hb.mono (by omega)) (.nil (by omega))))) (by split <;> omega)
    split at q
    · rename_i hc
      rw [Bool.and_eq_true] at q
      cases c with
      | false => simp at hc
      | true =>
        have ha := sR_flat false pl k a q.1 hk
        have hb := sTs_flat pl k b q.2 hk
        exact FD.tup (n := 6 * (8 - k) + 2) (.cons (.str (by omega)) (.cons (ha.mono (by simp)) (.cons hb (.nil (by omega))))) (by simp; omega)
    split at q
    · cases q
    split at q
    · rename_i hc
      rw [Bool.and_eq_true, Bool.and_eq_true] at q
      cases c with
      | false => simp at hc
      | true =>
        obtain ⟨x, rfl, -⟩ := nameB_str q.2.1
        have hb := sTs_flat pl k b q.2.2 hk
        exact FD.tup (n := 6 * (8 - k) + 2) (.cons (.str (by omega)) (.cons (.str (by omega)) (.cons hb (.nil (by omega))))) (by simp; omega)
    · cases q
  | .tup [.str h, a, b, g], q, hk => by
    unfold sR at q
    simp only [List.isEmpty_cons, Bool.false_and] at q
    split at q
    · cases q
    split at q
    · cases q
    split at q
    · cases q
    split at q
    · cases q
    split at q
    · rename_i hc
      rw [Bool.and_eq_true, Bool.and_eq_true] at q
      cases c with
      | false => simp at hc
      | true =>
        have ha := sR_flat false pl k a q.1 hk
        obtain ⟨x, rfl, -⟩ := nameB_str q.2.1
        have hb := sTs_flat pl k g q.2.2 hk
        exact FD.tup (n := 6 * (8 - k) + 2) (.cons (.str (by omega)) (.cons (ha.mono (by simp)) (.cons (.str (by omega)) (.cons hb (.nil (by omega)))))) (by simp; omega)
    split at q
    · cases q
    · cases q
  | .tup (.str h :: a :: b :: g :: z :: r), q, hk => by
    unfold sR at q
    simp at q
  | .tup [], q, hk => by simp [sR] at q
  | .tup (.non :: _), q, hk => by simp [sR] at q
  | .tup (.bl _ :: _), q, hk => by simp [sR] at q
  | .tup (.int _ :: _), q, hk => by simp [sR] at q
  | .tup (.tup _ :: _), q, hk => by simp [sR] at q
  | .tup (.frl _ :: _), q, hk => by simp [sR] at q
  | .tup (.ref _ :: _), q, hk => by simp [sR] at q
  | .non, q, hk => by simp [sR] at q
  | .bl _, q, hk => by simp [sR] at q
  | .int _, q, hk => by simp [sR] at q
  | .str _, q, hk => by simp [sR] at q
  | .frl _, q, hk => by simp [sR] at q
  | .ref _, q, hk => by simp [sR] at q
theorem sTs_flat (pl : Pl) (k : Int) : ∀ d : D, sTs pl k d = true → k ≤ 8 → FD (6 * (8 - k) + 2) d
  | .tup ds, q, hk => by
    simp only [sTs, Bool.and_eq_true] at q
    exact .tup (sTl_flat pl k ds q.2 hk) (by omega)
  | .non, q, hk => by simp [sTs] at q
  | .bl _, q, hk => by simp [sTs] at q
  | .int _, q, hk => by simp [sTs] at q
  | .str _, q, hk => by simp [sTs] at q
  | .frl _, q, hk => by simp [sTs] at q
  | .ref _, q, hk => by simp [sTs] at q
theorem sTl_flat (pl : Pl) (k : Int) : ∀ ds : List D, sTl pl k ds = true → k ≤ 8 → FDL (6 * (8 - k) + 1) ds
  | [], q, hk => .nil (by omega)
  | d :: ds, q, hk => by
    simp only [sTl, Bool.and_eq_true] at q
    exact .cons (sR_flat false pl k d q.1 hk) (sTl_flat pl k ds q.2 hk)
theorem sT_flat (l : Nat) (pl : Pl) (k : Int) : ∀ d : D, sT l pl k d = true → k ≤ 8 → FD (6 * (8 - k) + 1 + l) d
  | .tup [.str h, a], q, hk => by
    unfold sT at q
    split at q
    · cases q
    simp only at q
    split at q
    · cases q
    split at q
    · have := sT_flat (l - 1) pl k a q hk
      exact .tup (n := 6 * (8 - k) + l) (.cons (.str (by omega)) (.cons (this.mono (by omega)) (.nil (by omega)))) (by omega)
    split at q
    · cases q
    · cases q
  | .tup [.str h, a, b], q, hk => by
    unfold sT at q
    split at q
    · cases q
    simp only at q
    split at q
    · rw [Bool.and_eq_true] at q
      exact .tup (n := 6 * (8 - k) + l) (.cons (.str (by omega)) (.cons ((sR_flat false pl k a q.1 hk).mono (by simp; omega)) (.cons ((sR_flat false pl k b q.2 hk).mono (by simp; omega)) (.nil (by omega))))) (by omega)
    split at q
    · cases q
    split at q
    · rw [Bool.and_eq_true] at q
      exact .tup (n := 6 * (8 - k) + l) (.cons (.str (by omega)) (.cons ((sT_flat (l - 1) pl k a q.1 hk).mono (by omega)) (.cons ((sT_flat (l - 1) pl k b q.2 hk).mono (by omega)) (.nil (by omega))))) (by omega)
    · cases q
  | .tup [.str h], q, hk => by
    unfold sT at q
    simp at q
  | .tup (.str h :: a :: b :: g :: r), q, hk => by
    unfold sT at q
    simp at q
  | .tup [], q, hk => by simp [sT] at q
  | .tup (.non :: _), q, hk => by simp [sT] at q
  | .tup (.bl _ :: _), q, hk => by simp [sT] at q
  | .tup (.int _ :: _), q, hk => by simp [sT] at q
  | .tup (.tup _ :: _), q, hk => by simp [sT] at q
  | .tup (.frl _ :: _), q, hk => by simp [sT] at q
  | .tup (.ref _ :: _), q, hk => by simp [sT] at q
  | .non, q, hk => by simp [sT] at q
  | .bl _, q, hk => by simp [sT] at q
  | .int _, q, hk => by simp [sT] at q
  | .str _, q, hk => by simp [sT] at q
  | .frl _, q, hk => by simp [sT] at q
  | .ref _, q, hk => by simp [sT] at q
theorem sS_flat (pl : Pl) (k : Int) : ∀ d : D, sS pl k d = true → k ≤ 8 → FD (6 * (8 - k) + 5) d
  | .tup [.str h, a], q, hk => by
    have key : sR false pl k a = true ∨ sR true pl k a = true := by
      unfold sS at q
      simp only at q
      repeat' split at q
      all_goals first
        | (cases q; done)
        | exact .inl q
        | exact .inr q
        | (rw [Bool.and_eq_true] at q; exact .inr q.2)
    have : FD (6 * (8 - k) + 3) a := by
      rcases key with q | q
      · exact (sR_flat false pl k a q hk).mono (by simp)
      · exact (sR_flat true pl k a q hk).mono (by simp)
    exact .tup (n := 6 * (8 - k) + 3) (.cons (.str (by omega)) (.cons this (.nil (by omega)))) (by omega)
  | .tup [.str h, a, b], q, hk => by
    have key : ((∃ x, a = .str x) ∧ sR true pl k b = true) ∨ (sT 3 pl k a = true ∧ sB pl (k + 1) b = true) ∨ (sB pl (k + 1) a = true ∧ sB pl (k + 1) b = true) := by
      unfold sS at q
      simp only at q
      repeat' split at q
      all_goals first
        | (cases q; done)
        | (rw [Bool.and_eq_true] at q; exact .inl ⟨(nameB_str q.1).imp fun x h => h.1, q.2⟩)
        | (rw [Bool.and_eq_true] at q; exact .inl ⟨fld_str q.1, q.2⟩)
        | (rw [Bool.and_eq_true] at q; exact .inr (.inl q))
        | (rw [Bool.and_eq_true] at q; exact .inr (.inr q))
    rcases key with ⟨⟨x, rfl⟩, q⟩ | ⟨q1, q2⟩ | ⟨q1, q2⟩
    · exact .tup (n := 6 * (8 - k) + 3) (.cons (.str (by omega)) (.cons (.str (by omega)) (.cons ((sR_flat true pl k b ‹sR true pl k b = true› hk).mono (by simp)) (.nil (by omega))))) (by omega)
    · exact .tup (n := 6 * (8 - k) + 4) (.cons (.str (by omega)) (.cons ((sT_flat 3 pl k a q1 hk).mono (by omega)) (.cons ((sB_flat pl (k + 1) b q2).mono (by omega)) (.nil (by omega))))) (by omega)
    · exact .tup (n := 6 * (8 - k) + 4) (.cons (.str (by omega)) (.cons ((sB_flat pl (k + 1) a q1).mono (by omega)) (.cons ((sB_flat pl (k + 1) b q2).mono (by omega)) (.nil (by omega))))) (by omega)
  | .tup [.str h, a, b, g], q, hk => by
    have key : (sT 3 pl k a = true ∧ sB pl (k + 1) b = true ∧ sB pl (k + 1) g = true) ∨ (sB pl (k + 1) a = true ∧ (∃ x, b = .str x) ∧ sB pl (k + 1) g = true) := by
      unfold sS at q
      simp only at q
      repeat' split at q
      all_goals first
        | (cases q; done)
        | (rw [Bool.and_eq_true, Bool.and_eq_true] at q; exact .inr ⟨q.2.1, (nameB_str q.1).imp fun x h => h.1, q.2.2⟩)
        | (rw [Bool.and_eq_true, Bool.and_eq_true] at q; exact .inl q)
    rcases key with ⟨q1, q2, q3⟩ | ⟨q1, ⟨x, rfl⟩, q3⟩
    · exact .tup (n := 6 * (8 - k) + 4) (.cons (.str (by omega)) (.cons ((sT_flat 3 pl k a q1 hk).mono (by omega)) (.cons ((sB_flat pl (k + 1) b q2).mono (by omega)) (.cons ((sB_flat pl (k + 1) g q3).mono (by omega)) (.nil (by omega)))))) (by omega)
    · exact .tup (n := 6 * (8 - k) + 4) (.cons (.str (by omega)) (.cons ((sB_flat pl (k + 1) a q1).mono (by omega)) (.cons (.str (by omega)) (.cons ((sB_flat pl (k + 1) g q3).mono (by omega)) (.nil (by omega)))))) (by omega)
  | .tup [.str h], q, hk => by
    unfold sS at q
    simp at q
  | .tup (.str h :: a :: b :: g :: z :: r), q, hk => by
    unfold sS at q
    simp at q
  | .tup [], q, hk => by simp [sS] at q
  | .tup (.non :: _), q, hk => by simp [sS] at q
  | .tup (.bl _ :: _), q, hk => by simp [sS] at q
  | .tup (.int _ :: _), q, hk => by simp [sS] at q
  | .tup (.tup _ :: _), q, hk => by simp [sS] at q
  | .tup (.frl _ :: _), q, hk => by simp [sS] at q
  | .tup (.ref _ :: _), q, hk => by simp [sS] at q
  | .non, q, hk => by simp [sS] at q
  | .bl _, q, hk => by simp [sS] at q
  | .int _, q, hk => by simp [sS] at q
  | .str _, q, hk => by simp [sS] at q
  | .frl _, q, hk => by simp [sS] at q
  | .ref _, q, hk => by simp [sS] at q
theorem sSl_flat (pl : Pl) (k : Int) : ∀ ds : List D, sSl pl k ds = true → k ≤ 8 → FDL (6 * (8 - k) + 5) ds
  | [], q, hk => .nil (by omega)
  | d :: ds, q, hk => by
    simp only [sSl, Bool.and_eq_true] at q
    exact .cons (sS_flat pl k d q.1 hk) (sSl_flat pl k ds q.2 hk)
theorem sB_flat (pl : Pl) (k : Int) : ∀ d : D, sB pl k d = true → FD (6 * (8 - k) + 6) d
  | .tup ds, q => by
    simp only [sB, Bool.and_eq_true, decide_eq_true_eq] at q
    exact .tup (sSl_flat pl k ds q.2.2 q.2.1) (by omega)
  | .non, q => by simp [sB] at q
  | .bl _, q => by simp [sB] at q
  | .int _, q => by simp [sB] at q
  | .str _, q => by simp [sB] at q
  | .frl _, q => by simp [sB] at q
  | .ref _, q => by simp [sB] at q
end
end Mi
namespace Mi
open PySem PySem.Spec L2
/-! ### programs, plainly -/
def keyStr (p : Key × D) : Str := match p.1 with
  | .inr x => x
  | .inl _ => ""
def namesK (kvs : List (Key × D)) : List Str := srtS (kvs.map keyStr)
def optS : Option Str → D
  | none => .non
  | some x => .str x
def blkOf (ms : List (Key × D)) (x : Str) : D := match valD ms (.inr x) with
  | some (.tup [_, b]) => b
  | _ => .non
def badMeth (pl : Pl) (ms : List (Key × D)) : Option Str := (namesK ms).find? fun x => !sB pl 1 (blkOf ms x)
def isNonB : D → Bool
  | .non => true
  | _ => false
def badM (S : So) (kn : Option (List Str)) : D → Option Str
  | .tup [p, _, .ref f, .ref g] => (match S[f]?, S[g]? with
    | some (.dct fs), some (.dct ms) => badMeth ⟨some (namesK fs), !isNonB p, kn, true⟩ ms
    | _, _ => none)
  | _ => none
def clsOf (kvs : List (Key × D)) (x : Str) : D := (valD kvs (.inr x)).getD .non
def badCls (S : So) (kvs : List (Key × D)) (kn : Option (List Str)) : List Str → Option Str
  | [] => none
  | x :: r => match badM S kn (clsOf kvs x) with
    | some m => some (x ++ "." ++ m)
    | none => badCls S kvs kn r
def bodyPl (kvs : List (Key × D)) : Pl := ⟨none, false, some (namesK kvs), false⟩
def badPart (S : So) (d body : D) : Option Str := match d with
  | .ref n => (match S[n]? with
    | some (.dct kvs) => if outsK S kvs then (match badCls S kvs (some (namesK kvs)) (namesK kvs) with
      | some x => some x
      | none => if sB (bodyPl kvs) 1 body then none else some "body") else some "classes"
    | _ => some "classes")
  | _ => some "classes"
theorem keyStrs_all : ∀ {kvs : List (Key × D)}, (∀ p ∈ kvs, nameB (kD p.1) = true) → keyStrs kvs = some (kvs.map keyStr)
  | [], _ => rfl
  | (k, d) :: r, h => by
    have h1 := h (k, d) List.mem_cons_self
    have h2 := keyStrs_all fun p hp => h p (List.mem_cons_of_mem _ hp)
    cases k with
    | inl i => cases h1
    | inr x =>
      unfold keyStrs
      rw [h2]
      rfl
theorem sorted_dct {S : So} {n : Nat} {kvs : List (Key × D)} (hl : S[n]? = some (.dct kvs)) (h : ∀ p ∈ kvs, nameB (kD p.1) = true) (hn : kvs.length < 64) : sortedD [.ref n] S = .ok (.ref S.length) (S ++ [.lst ((namesK kvs).map D.str)]) := by
  have h1 : dctO S (.ref n) = some kvs := by
    unfold dctO vw
    simp only [hl]
  have h2 : (kvs.map keyStr).length < 64 := by simpa using hn
  unfold sortedD
  simp only [h1, keyStrs_all h, if_pos h2]
  rfl
theorem mem_namesK {kvs : List (Key × D)} {x : Str} : x ∈ namesK kvs ↔ ∃ p ∈ kvs, keyStr p = x := by
  unfold namesK
  rw [(srtS_perm _).mem_iff, List.mem_map]
theorem val_some {kvs : List (Key × D)} (h : ∀ p ∈ kvs, nameB (kD p.1) = true) {x : Str} (hx : x ∈ namesK kvs) : ∃ p ∈ kvs, valD kvs (.inr x) = some p.2 ∧ p.1 = .inr x := by
  obtain ⟨p, hp, rfl⟩ := mem_namesK.mp hx
  have hk : p.1 = .inr (keyStr p) := by
    have := h p hp
    obtain ⟨k, d⟩ := p
    cases k with
    | inl i => cases this
    | inr y => rfl
  unfold valD
  cases hf : kvs.find? (fun kv => decide (kv.1 = .inr (keyStr p))) with
  | none =>
    rw [List.find?_eq_none] at hf
    have := hf p hp
    simp [hk] at this
  | some q =>
    exact ⟨q, List.mem_of_find?_eq_some hf, rfl, by simpa using List.find?_some hf⟩
/-- two class values of like dicts -/
def LikeC (S S' : So) (c c' : D) : Prop := ∃ p m f g f' g' fs ms, c = .tup [p, m, .ref f, .ref g] ∧ c' = .tup [p, m, .ref f', .ref g'] ∧ S[f]? = some (.dct fs) ∧ S'[f']? = some (.dct fs) ∧ S[g]? = some (.dct ms) ∧ S'[g']? = some (.dct ms)
/-- two dicts of classes that are alike in what they hold -/
def LikeK (S S' : So) (ks ls : List (Key × D)) : Prop := ks.length = ls.length ∧ ∀ (i : Nat) (p : Key × D), ks[i]? = some p → ∃ q : Key × D, ls[i]? = some q ∧ q.1 = p.1 ∧ LikeC S S' p.2 q.2
theorem eqK_like {f : D → D → Option Bool} : ∀ {ks ls : List (Key × D)}, (∀ p ∈ ks, ∃ y, valD ls p.1 = some y ∧ f p.2 y = some true) → eqK f ls ks = some true
  | [], _, _ => rfl
  | (k, x) :: r, ls, h => by
    obtain ⟨y, h1, h2⟩ := h (k, x) List.mem_cons_self
    have h3 := eqK_like (ks := r) (ls := ls) fun p hp => h p (List.mem_cons_of_mem _ hp)
    unfold eqK
    simp only [h1, h2, h3, Bool.and_self]
theorem val_nodup {kvs : List (Key × D)} (hn : (kvs.map (·.1)).Nodup) {p : Key × D} (hp : p ∈ kvs) : valD kvs p.1 = some p.2 := by
  induction kvs with
  | nil => cases hp
  | cons q r ih =>
    rw [List.map_cons, List.nodup_cons] at hn
    rcases List.mem_cons.mp hp with rfl | hp
    · simp [valD]
    · have hne : q.1 ≠ p.1 := fun z => hn.1 (by rw [z]; exact List.mem_map_of_mem hp)
      have := ih hn.2 hp
      unfold valD at this ⊢
      rw [List.find?_cons]
      simp only [hne, decide_false]
      exact this
/-- a dict of flat entries -/
def FlatK (n : Nat) (kvs : List (Key × D)) : Prop := (kvs.map (·.1)).Nodup ∧ ∀ p ∈ kvs, flat p.2 = true ∧ dep p.2 ≤ n
theorem eqB_dct {S : So} {f f' : Nat} {fs : List (Key × D)} {n : Nat} (h1 : S[f]? = some (.dct fs)) (h2 : S[f']? = some (.dct fs)) (h : FlatK n fs) (hn : n < 90) {k : Nat} (hk : 95 ≤ k) : eqB true S (k + 1) (.ref f) (.ref f') = some true := by
  show (if sameRef (.ref f) (.ref f') then some true else eqW true (eqB true S k) (vw S (.ref f)) (vw S (.ref f'))) = some true
  split
  · rfl
  · have e1 : vw S (.ref f) = .dct fs := by unfold vw; simp only [h1]
    have e2 : vw S (.ref f') = .dct fs := by unfold vw; simp only [h2]
    rw [e1, e2]
    have : eqK (eqB true S k) fs fs = some true := eqK_like fun p hp => ⟨p.2, val_nodup h.1 hp, eqB_self k p.2 (h.2 p hp).1 (by have := (h.2 p hp).2; omega)⟩
    simp only [eqW, this, if_true, Option.map_some, beq_self_eq_true, Bool.true_and]
theorem eqD_like {S : So} {a b : Nat} {ks ls : List (Key × D)} (h1 : S[a]? = some (.dct ks)) (h2 : S[b]? = some (.dct ls)) (hn : (ls.map (·.1)).Nodup) (hl : LikeK S S ks ls)
    (hf : ∀ p ∈ ks, ∀ q m f g fs ms, p.2 = .tup [q, m, .ref f, .ref g] → S[f]? = some (.dct fs) → S[g]? = some (.dct ms) → (flat q = true ∧ dep q ≤ 1) ∧ (flat m = true ∧ dep m ≤ 1) ∧ FlatK 60 fs ∧ FlatK 60 ms) : eqD (.ref a) (.ref b) S = .ok (.bl true) S := by
  have e1 : vw S (.ref a) = .dct ks := by unfold vw; simp only [h1]
  have e2 : vw S (.ref b) = .dct ls := by unfold vw; simp only [h2]
  have hk : eqK (eqB true S 100) ls ks = some true := by
    refine eqK_like fun p hp => ?_
    obtain ⟨i, hi⟩ := List.getElem?_of_mem hp
    obtain ⟨q, hq, hqk, p', m, f, g, f', g', fs, ms, c1, c2, d1, d2, d3, d4⟩ := hl.2 i p hi
    have hv := val_nodup hn (List.mem_of_getElem? hq)
    rw [hqk] at hv
    refine ⟨_, hv, ?_⟩
    obtain ⟨⟨a1, a2⟩, ⟨b1, b2⟩, F, M⟩ := hf p hp p' m f g fs ms c1 d1 d3
    rw [c1, c2]
    have t1 := eqB_self (dk := true) (S := S) 99 p' a1 (by omega)
    have t2 := eqB_self (dk := true) (S := S) 99 m b1 (by omega)
    have t3 := eqB_dct (k := 98) d1 d2 F (by omega) (by omega)
    have t4 := eqB_dct (k := 98) d3 d4 M (by omega) (by omega)
    show (if sameRef (.tup [p', m, .ref f, .ref g]) (.tup [p', m, .ref f', .ref g']) then some true else eqW true (eqB true S 99) (.tup [p', m, .ref f, .ref g]) (.tup [p', m, .ref f', .ref g'])) = some true
    simp only [sameRef, Bool.false_eq_true, if_false, eqW, eqL, t1, t2, t3, t4, Bool.and_self]
  have h : eqO S (.ref a) (.ref b) = some true := by
    unfold eqO
    rw [e1, e2]
    have hlen : ks.length = ls.length := hl.1
    simp only [eqW, hk, if_true, Option.map_some, hlen, beq_self_eq_true, Bool.true_and]
  unfold eqD
  simp only [h]
theorem okF.ext {S S' : So} {x : D} (e : Ext S S') (h : okF S x) : okF S' x := ⟨e.ok h.1, fun j hj => by
  rcases h.2 j hj with ⟨l, hl⟩ | ⟨kvs, hl, hk⟩
  · exact .inl ⟨l, e.at_ hl⟩
  · exact .inr ⟨kvs, e.at_ hl, fun p hp => ⟨e.ok (hk p hp).1, e.ok (hk p hp).2⟩⟩⟩
theorem okC.ext {S S' : So} {x : D} (e : Ext S S') (h : okC S x) : okC S' x := ⟨e.ok h.1, fun p m f g q => ⟨okF.ext e (h.2 p m f g q).1, okF.ext e (h.2 p m f g q).2⟩⟩
theorem put_new {kvs : List (Key × D)} {k : Key} {v : D} (h : ∀ p ∈ kvs, p.1 ≠ k) : putD kvs k v = kvs ++ [(k, v)] := by
  unfold putD
  rw [if_neg]
  simpa using fun x hx => h (k, x) hx rfl
theorem dict_dct {S : So} {n : Nat} {kvs : List (Key × D)} (h : S[n]? = some (.dct kvs)) : dictD [.ref n] S = .ok (.ref S.length) (S ++ [.dct kvs]) := by
  unfold dictD dctO vw
  simp only [h]
theorem set_dct {S : So} {m : Nat} {kvs : List (Key × D)} {e z : D} {k : Key} (h : S[m]? = some (.dct kvs)) (hk : keyD e = some k) (hl : kvs.length < lim) : setD (.ref m) e z S = .ok () (S.set m (.dct (putD kvs k z))) := by
  unfold setD
  simp only [h, hk, if_pos hl]
/-- a class value of like dicts that are new -/
def LikeN (S S' : So) (c c' : D) : Prop := ∃ p m f g f' g' fs ms, c = .tup [p, m, .ref f, .ref g] ∧ c' = .tup [p, m, .ref f', .ref g'] ∧ S[f]? = some (.dct fs) ∧ S'[f']? = some (.dct fs) ∧ S[g]? = some (.dct ms) ∧ S'[g']? = some (.dct ms) ∧ S.length < f' ∧ S.length < g'
theorem LikeN.keep {S S' S'' : So} {c c' : D} (h : LikeN S S' c c') (k : ∀ (i : Nat) (o : O), S.length < i → S'[i]? = some o → S''[i]? = some o) : LikeN S S'' c c' := by
  obtain ⟨p, m, f, g, f', g', fs, ms, h1, h2, h3, h4, h5, h6, h7, h8⟩ := h
  exact ⟨p, m, f, g, f', g', fs, ms, h1, h2, h3, k _ _ h7 h4, h5, k _ _ h8 h6, h7, h8⟩
theorem LikeN.like {S S' : So} {c c' : D} (h : LikeN S S' c c') : LikeC S S' c c' := by
  obtain ⟨p, m, f, g, f', g', fs, ms, h1, h2, h3, h4, h5, h6, h7, h8⟩ := h
  exact ⟨p, m, f, g, f', g', fs, ms, h1, h2, h3, h4, h5, h6⟩
def LikeL (S S' : So) (ks ls : List (Key × D)) : Prop := ks.length = ls.length ∧ ∀ (i : Nat) (p : Key × D), ks[i]? = some p → ∃ q : Key × D, ls[i]? = some q ∧ q.1 = p.1 ∧ LikeN S S' p.2 q.2
theorem LikeL.like {S S' : So} {ks ls : List (Key × D)} (h : LikeL S S' ks ls) : LikeK S S' ks ls := ⟨h.1, fun i p hp => by
  obtain ⟨q, h1, h2, h3⟩ := h.2 i p hp
  exact ⟨q, h1, h2, h3.like⟩⟩
end Mi
namespace Mi
open PySem PySem.Spec L2
/-! ### the second kind of source: cells, place, number, seed -/
structure SrcB (s t : Nat) (cs : List Int) (i c d : Int) (S : So) : Prop where
  at_ : S[s]? = some (.lst [.ref t, .int i, .int c, .int d])
  cl : S[t]? = some (.lst (cs.map D.int))
  ne : s ≠ t
  i0 : 0 ≤ i
section
variable {s t : Nat} {cs : List Int} {i c d x : Int} {S : So}
theorem SrcB.set (h : SrcB s t cs i c d S) {o : O} : (S.set s o)[s]? = some o ∧ (S.set s o)[t]? = S[t]? ∧ Keep s S (S.set s o) :=
  ⟨List.getElem?_set_self (List.getElem?_eq_some_iff.mp h.at_).1, List.getElem?_set_ne h.ne, List.length_set, fun n hn => List.getElem?_set_ne (Ne.symm hn)⟩
theorem srcB1 (h : SrcB s t cs i c d S) (hx : 0 ≤ x) : ∃ S', setD (.ref s) (.int 1) (.int x) S = .ok () S' ∧ SrcB s t cs x c d S' ∧ Keep s S S' := by
  obtain ⟨a, b, k⟩ := h.set (o := .lst [.ref t, .int x, .int c, .int d])
  exact ⟨_, set_lst h.at_ (j := 1) rfl, ⟨a, b.trans h.cl, h.ne, hx⟩, k⟩
theorem srcB2 (h : SrcB s t cs i c d S) : ∃ S', setD (.ref s) (.int 2) (.int x) S = .ok () S' ∧ SrcB s t cs i x d S' ∧ Keep s S S' := by
  obtain ⟨a, b, k⟩ := h.set (o := .lst [.ref t, .int i, .int x, .int d])
  exact ⟨_, set_lst h.at_ (j := 2) rfl, ⟨a, b.trans h.cl, h.ne, h.i0⟩, k⟩
theorem srcB3 (h : SrcB s t cs i c d S) : ∃ S', setD (.ref s) (.int 3) (.int x) S = .ok () S' ∧ SrcB s t cs i c x S' ∧ Keep s S S' := by
  obtain ⟨a, b, k⟩ := h.set (o := .lst [.ref t, .int i, .int c, .int x])
  exact ⟨_, set_lst h.at_ (j := 3) rfl, ⟨a, b.trans h.cl, h.ne, h.i0⟩, k⟩
def StB (s t : Nat) (S : So) : Prop := ∃ cs i c d, SrcB s t cs i c d S
theorem StB.app {T : So} (h : StB s t S) : StB s t (S ++ T) := by
  obtain ⟨cs, i, c, d, h⟩ := h
  have l1 := (List.getElem?_eq_some_iff.mp h.at_).1
  have l2 := (List.getElem?_eq_some_iff.mp h.cl).1
  exact ⟨cs, i, c, d, ⟨(List.getElem?_append_left l1).trans h.at_, (List.getElem?_append_left l2).trans h.cl, h.ne, h.i0⟩⟩
theorem StB.lt (h : StB s t S) : s < S.length ∧ t < S.length := by
  obtain ⟨cs, i, c, d, h⟩ := h
  exact ⟨(List.getElem?_eq_some_iff.mp h.at_).1, (List.getElem?_eq_some_iff.mp h.cl).1⟩
theorem StB.set {n : Nat} {o : O} (h : StB s t S) (h1 : n ≠ s) (h2 : n ≠ t) : StB s t (S.set n o) := by
  obtain ⟨cs, i, c, d, h⟩ := h
  exact ⟨cs, i, c, d, ⟨(List.getElem?_set_ne h1).trans h.at_, (List.getElem?_set_ne h2).trans h.cl, h.ne, h.i0⟩⟩
def DrawnB (s t : Nat) (many : Int) (S : So) (r : D) (S' : So) : Prop := StB s t S' ∧ Keep s S S' ∧ ∃ k : Int, r = .int k ∧ 0 ≤ k ∧ k < many
end
/-- what stands above stays: the source's list apart, and more behind -/
theorem Grw.at_ {s n : Nat} {S S' : So} {o : O} (g : Grw s S S') (h : S[n]? = some o) (hn : n ≠ s) : S'[n]? = some o := (g.2 n (List.getElem?_eq_some_iff.mp h).1 hn).trans h
theorem Grw.ext {s : Nat} {S S' : So} (e : Ext S S') : Grw s S S' := by
  obtain ⟨T, rfl⟩ := e
  exact Grw.app
end Mi
namespace Mi
open PySem PySem.Spec L2
/-! ### forms, one by one -/
theorem sR_call {pl : Pl} {k : Int} {a ts : D} : sR true pl k (.tup [.str "call", a, ts]) = (sR false pl k a && sTs pl k ts) := by first | rfl | (simp (decide := true) [sR])
theorem sR_ask {pl : Pl} {k : Int} {a m ts : D} : sR true pl k (.tup [.str "ask", a, m, ts]) = (sR false pl k a && (nameB m && sTs pl k ts)) := by first | rfl | (simp (decide := true) [sR])
theorem sR_parent {pl : Pl} {k : Int} {m ts : D} : sR true pl k (.tup [.str "parent", m, ts]) = (pl.hp && (nameB m && sTs pl k ts)) := by first | rfl | (simp (decide := true) [sR])
theorem sR_fn {c : Bool} {pl : Pl} {k : Int} {ps b : D} : sR c pl k (.tup [.str "fn", ps, b]) = (namesB 3 ps && sB pl.inner (k + 1) b) := by first | rfl | (simp (decide := true) [sR])
theorem sS_let {pl : Pl} {k : Int} {x r : D} : sS pl k (.tup [.str "let", x, r]) = (nameB x && sR true pl k r) := by first | rfl | (simp (decide := true) [sS])
theorem sS_set {pl : Pl} {k : Int} {x r : D} : sS pl k (.tup [.str "set", x, r]) = (nameB x && sR true pl k r) := by first | rfl | (simp (decide := true) [sS])
theorem sS_keep {pl : Pl} {k : Int} {x r : D} : sS pl k (.tup [.str "keep", x, r]) = (pl.fld x && sR true pl k r) := by first | rfl | (simp (decide := true) [sS])
theorem sS_print {pl : Pl} {k : Int} {r : D} : sS pl k (.tup [.str "print", r]) = sR false pl k r := by first | rfl | (simp (decide := true) [sS])
theorem sS_return {pl : Pl} {k : Int} {r : D} : sS pl k (.tup [.str "return", r]) = (pl.mr && sR true pl k r) := by first | rfl | (simp (decide := true) [sS])
theorem sS_do {pl : Pl} {k : Int} {r : D} : sS pl k (.tup [.str "do", r]) = sR true pl k r := by first | rfl | (simp (decide := true) [sS])
theorem sS_raise {pl : Pl} {k : Int} {r : D} : sS pl k (.tup [.str "raise", r]) = sR true pl k r := by first | rfl | (simp (decide := true) [sS])
theorem sS_if {pl : Pl} {k : Int} {t a b : D} : sS pl k (.tup [.str "if", t, a, b]) = (sT 3 pl k t && (sB pl (k + 1) a && sB pl (k + 1) b)) := by first | rfl | (simp (decide := true) [sS])
theorem sS_while {pl : Pl} {k : Int} {t a : D} : sS pl k (.tup [.str "while", t, a]) = (sT 3 pl k t && sB pl (k + 1) a) := by first | rfl | (simp (decide := true) [sS])
theorem sS_try {pl : Pl} {k : Int} {x a b : D} : sS pl k (.tup [.str "try", a, x, b]) = (nameB x && (sB pl (k + 1) a && sB pl (k + 1) b)) := by first | rfl | (simp (decide := true) [sS])
theorem sS_last {pl : Pl} {k : Int} {a b : D} : sS pl k (.tup [.str "last", a, b]) = (sB pl (k + 1) a && sB pl (k + 1) b) := by first | rfl | (simp (decide := true) [sS])
theorem sT_same {l : Nat} {pl : Pl} {k : Int} {a b : D} : sT (l + 1) pl k (.tup [.str "same", a, b]) = (sR false pl k a && sR false pl k b) := by first | rfl | (simp (decide := true) [sT])
theorem sT_not {l : Nat} {pl : Pl} {k : Int} {a : D} : sT (l + 1) pl k (.tup [.str "not", a]) = sT l pl k a := by first | rfl | (simp (decide := true) [sT])
theorem sT_both {l : Nat} {pl : Pl} {k : Int} {a b : D} : sT (l + 1) pl k (.tup [.str "both", a, b]) = (sT l pl k a && sT l pl k b) := by first | rfl | (simp (decide := true) [sT])
theorem sT_either {l : Nat} {pl : Pl} {k : Int} {a b : D} : sT (l + 1) pl k (.tup [.str "either", a, b]) = (sT l pl k a && sT l pl k b) := by first | rfl | (simp (decide := true) [sT])
theorem sTs_0 {pl : Pl} {k : Int} : sTs pl k (.tup []) = true := by simp [sTs, sTl]
theorem sTs_1 {pl : Pl} {k : Int} {a : D} : sTs pl k (.tup [a]) = sR false pl k a := by simp [sTs, sTl]
theorem sTs_2 {pl : Pl} {k : Int} {a b : D} : sTs pl k (.tup [a, b]) = (sR false pl k a && sR false pl k b) := by simp [sTs, sTl]
theorem sB_0 {pl : Pl} {k : Int} (h : k ≤ 8) : sB pl k (.tup []) = true := by simp [sB, sSl, h]
theorem sB_2 {pl : Pl} {k : Int} {a b : D} (h : k ≤ 8) : sB pl k (.tup [a, b]) = (sS pl k a && sS pl k b) := by simp [sB, sSl, h]
theorem sR_none {c : Bool} {pl : Pl} {k : Int} : sR c pl k (.tup [.str "none"]) = true := by cases c <;> rfl
theorem sR_name {c : Bool} {pl : Pl} {k : Int} {x : D} : sR c pl k (.tup [.str "name", x]) = nameB x := by cases c <;> first | rfl | (simp (decide := true) [sR])
theorem sR_word {c : Bool} {pl : Pl} {k : Int} {x : D} : sR c pl k (.tup [.str "word", x]) = nameB x := by cases c <;> first | rfl | (simp (decide := true) [sR])
theorem sTl_all {pl : Pl} {k : Int} : ∀ ds : List D, sTl pl k ds = ds.all (sR false pl k)
  | [] => by simp [sTl]
  | d :: ds => by simp [sTl, sTl_all ds]
theorem sSl_all {pl : Pl} {k : Int} : ∀ ds : List D, sSl pl k ds = ds.all (sS pl k)
  | [] => by simp [sSl]
  | d :: ds => by simp [sSl, sSl_all ds]
theorem okL_app {S : So} : ∀ {xs ys : List D}, okL S (xs ++ ys) ↔ okL S xs ∧ okL S ys
  | [], ys => by simp [okL]
  | x :: xs, ys => by simp only [List.cons_append, okL, okL_app (xs := xs), and_assoc]
theorem okL_all {S : So} : ∀ {xs : List D}, okL S xs ↔ ∀ x ∈ xs, okD S x
  | [] => by simp [okL]
  | x :: xs => by simp [okL, okL_all (xs := xs)]
theorem cut_lo {ds : List D} {i : Nat} (h : i ≤ ds.length) : cutD ds none (some (i : Int)) = ds.take i := by
  unfold cutD HT.sIx
  have : ¬ ((i : Int) < 0) := by omega
  simp [this]
theorem cut_hi {ds : List D} {i : Nat} (h : i ≤ ds.length) : cutD ds (some (i : Int)) none = ds.drop i := by
  unfold cutD HT.sIx
  have : ¬ ((i : Int) < 0) := by omega
  simp only [this, if_false, Int.toNat_natCast, Nat.min_eq_left h]
  rw [List.take_of_length_le]
  rw [List.length_drop]
  exact Nat.le_refl _
theorem cut_mid {ds : List D} {i j : Nat} (hi : i ≤ ds.length) (hj : j ≤ ds.length) : cutD ds (some (i : Int)) (some (j : Int)) = (ds.drop i).take (j - i) := by
  unfold cutD HT.sIx
  have h1 : ¬ ((i : Int) < 0) := by omega
  have h2 : ¬ ((j : Int) < 0) := by omega
  simp only [h1, h2, if_false, Int.toNat_natCast, Nat.min_eq_left hi, Nat.min_eq_left hj]
theorem sl_tup {S : So} {ds : List D} {lo hi : Option Int} : slD (.tup ds) lo hi S = .ok (.tup (cutD ds lo hi)) S := rfl
theorem add_tup {S : So} {xs ys : List D} (h : xs.length + ys.length ≤ lim) : addD (.tup xs) (.tup ys) S = .ok (.tup (xs ++ ys)) S := by
  unfold addD
  simp only [if_pos h]
theorem sB_of {pl : Pl} {k : Int} {ds : List D} : sB pl k (.tup ds) = (decide (ds.length ≤ 12) && (decide (k ≤ 8) && sSl pl k ds)) := by simp [sB]
theorem sTs_of {pl : Pl} {k : Int} {ds : List D} : sTs pl k (.tup ds) = (decide (ds.length ≤ 3) && sTl pl k ds) := by simp [sTs]
end Mi
namespace Mi
open PySem
/-! ### names, letter by letter -/
def alpha : Str := "abcdefghijklmnopqrstuvwxyz"
def okCh (c : Nat) : Prop := 97 ≤ c ∧ c ≤ 122
theorem alpha_all : ∀ j : Nat, j < 26 → L2.atI alpha.cps.toList (j : Int) = some (97 + j) := by decide
theorem ix_alpha {S : So} {k : Int} (h0 : 0 ≤ k) (h1 : k < 26) : ∃ c, okCh c ∧ ixD (.str alpha) (.int k) S = .ok (.str ⟨#[c]⟩) S := by
  obtain ⟨j, rfl⟩ := Int.eq_ofNat_of_zero_le h0
  have hj : j < 26 := by omega
  refine ⟨97 + j, ⟨by omega, by omega⟩, ?_⟩
  unfold ixD ixO
  have : alpha.length ≤ lim := by decide
  simp only [if_pos this, alpha_all j hj, Option.map_some]
theorem low_all : ∀ j : Nat, j < 26 → lowB (97 + j) = true := by decide +kernel
theorem low_ok {c : Nat} (h : okCh c) : lowB c = true := by
  have := low_all (c - 97) (by have := h.2; have := h.1; omega)
  have e : 97 + (c - 97) = c := by have := h.1; omega
  rw [e] at this
  exact this
def oneS (c : Nat) : Str := ⟨#[c]⟩
theorem strs_ones (cs : List Nat) : strsO (cs.map fun c => D.str (oneS c)) = some (cs.map oneS) := by
  induction cs with
  | nil => rfl
  | cons c r ih =>
    show (strsO (r.map fun c => D.str (oneS c))).map (oneS c :: ·) = _
    rw [ih]
    rfl
theorem join_ones (cs : List Nat) : Str.join "" (cs.map oneS) = ⟨cs.toArray⟩ := by
  induction cs with
  | nil => rfl
  | cons c r ih =>
    cases r with
    | nil => rfl
    | cons c2 r =>
      have e : Str.join "" ((c :: c2 :: r).map oneS) = oneS c ++ "" ++ Str.join "" ((c2 :: r).map oneS) := rfl
      rw [e, ih]
      show (⟨(#[c] ++ ("" : Str).cps) ++ (c2 :: r).toArray⟩ : Str) = _
      have : ("" : Str).cps = #[] := by decide
      rw [this]
      simp
theorem ones_sum (cs : List Nat) : ((cs.map oneS).map (·.length)).sum = cs.length := by
  induction cs with
  | nil => rfl
  | cons c r ih =>
    simp only [List.map_cons, List.sum_cons, List.length_cons, ih]
    show 1 + r.length = r.length + 1
    omega
theorem name_of {cs : List Nat} (h : ∀ c ∈ cs, okCh c) (h1 : 1 ≤ cs.length) (h8 : cs.length ≤ 8) : nameS ⟨cs.toArray⟩ = true := by
  have l : (⟨cs.toArray⟩ : Str).length = cs.length := by simp [Str.length]
  have a : (⟨cs.toArray⟩ : Str).cps.toList.all lowB = true := by
    show cs.toArray.toList.all lowB = true
    rw [List.all_eq_true]
    intro c hc
    exact low_ok (h c (by simpa using hc))
  unfold nameS
  rw [l, a]
  simp [h1, h8]
end Mi
namespace Mkk02
open PySem Mi
def ctch_BadProgram : Is := fun n => if n = "BadProgram" then some true else none
def fok_body : Str → Bool := fun n => if n = "Program" then true else false
def fok_fields : Str → Bool := fun n => if n = "Place" then true else false
def fok_has_parent : Str → Bool := fun n => if n = "Place" then true else false
def fok_held : Str → Bool := fun n => if n = "Program" then true else false
def fok_known : Str → Bool := fun n => if n = "Place" then true else false
def fok_may_return : Str → Bool := fun n => if n = "Place" then true else false
def b_is_name : MS := mSeq (mIf (mOr (mNot (mB (mIs .str (mVar 0)))) (mNot (mB (mChain leD leD (mC (.int 1)) (mCallB lenD (mConsA (mVar 0) (mNilA))) (mC (.int 8)))))) (mRet (mC (.bl false))) (mSkip)) (mSeq (mFor (mIt (mVar 0)) (bN 1) (mIf (mB (m2 notInD (mVar 1) (mC (.str "abcdefghijklmnopqrstuvwxyz")))) (mRet (mC (.bl false))) (mSkip))) (mRet (mC (.bl true))))
def m_is_name : MF := mFn 1 2 b_is_name
def b_are_names : MS := mSeq (mIf (mOr (mNot (mB (mIs .tup (mVar 0)))) (mB (m2 gtD (mCallB lenD (mConsA (mVar 0) (mNilA))) (mVar 1)))) (mRet (mC (.bl false))) (mSkip)) (mSeq (mFor (mEnumT (mConsA (mVar 0) (mNilA))) (bT [2, 3]) (mIf (mOr (mNot (mB (mCall m_is_name 1 [] (mConsA (mVar 3) (mNilA))))) (mB (m2 inD (mVar 3) (mSl (mVar 0) (mNoPart) (mPart (mVar 2)))))) (mRet (mC (.bl false))) (mSkip))) (mRet (mC (.bl true))))
def m_are_names : MF := mFn 2 4 b_are_names
def b_head : MS := mSeq (mIf (mAnd (mB (mIs .tup (mVar 0))) (mAnd (mB (m2 gtD (mCallB lenD (mConsA (mVar 0) (mNilA))) (mC (.int 0)))) (mB (mIs .str (m2 ixD (mVar 0) (mC (.int 0))))))) (mRet (m2 ixD (mVar 0) (mC (.int 0)))) (mSkip)) (mRet (mC (.str "")))
def m_head : MF := mFn 1 1 b_head
def b_Place_has_field : MS := mRet (mAndV (m1 notND (mFld fok_fields "fields" (mVar 0))) (mAndV (mCall m_is_name 1 [] (mConsA (mVar 1) (mNilA))) (m2 inD (mVar 1) (mFld fok_fields "fields" (mVar 0)))))
def m_Place_has_field : MF := mFn 2 2 b_Place_has_field
def b_Place_has_class : MS := mRet (mAndV (mCall m_is_name 1 [] (mConsA (mVar 1) (mNilA))) (mOrV (m1 isND (mFld fok_known "known" (mVar 0))) (m2 inD (mVar 1) (mFld fok_known "known" (mVar 0)))))
def m_Place_has_class : MF := mFn 2 2 b_Place_has_class
def b_Place___init__ : MS := mSeq (mFst fok_fields "fields" (mVar 0) (mVar 1)) (mSeq (mFst fok_has_parent "has_parent" (mVar 0) (mVar 2)) (mSeq (mFst fok_known "known" (mVar 0) (mVar 3)) (mFst fok_may_return "may_return" (mVar 0) (mVar 4))))
def m_Place___init__ : MF := mFn 5 5 b_Place___init__
def b_Place_within_function : MS := mRet (mMake "Place" m_Place___init__ 5 [] (mConsA (mFld fok_fields "fields" (mVar 0)) (mConsA (mFld fok_has_parent "has_parent" (mVar 0)) (mConsA (mFld fok_known "known" (mVar 0)) (mConsA (mC (.bl true)) (mNilA))))))
def m_Place_within_function : MF := mFn 1 1 b_Place_within_function
inductive F_is_simple where
  | is_simple
  | are_things
  | is_right
  | is_test
  | is_short
  | is_statement
  | is_block
def b_is_simple (r : F_is_simple → MF) : MS := mSeq (mAsg (mCall m_head 1 [] (mConsA (mVar 0) (mNilA))) (bN 3)) (mSeq (mIf (mB (m2 eqD (mVar 3) (mC (.str "none")))) (mRet (m2 eqD (mCallB lenD (mConsA (mVar 0) (mNilA))) (mC (.int 1)))) (mSkip)) (mSeq (mIf (mB (m2 eqD (mVar 3) (mC (.str "me")))) (mRet (mAndV (m2 eqD (mCallB lenD (mConsA (mVar 0) (mNilA))) (mC (.int 1))) (m1 notND (mFld fok_fields "fields" (mVar 1))))) (mSkip)) (mSeq (mIf (mB (m2 eqD (mVar 3) (mC (.str "fn")))) (mSeq (mIf (mOr (mB (m2 neD (mCallB lenD (mConsA (mVar 0) (mNilA))) (mC (.int 3)))) (mNot (mB (mCall m_are_names 2 [] (mConsA (m2 ixD (mVar 0) (mC (.int 1))) (mConsA (mC (.int 3)) (mNilA))))))) (mRet (mC (.bl false))) (mSkip)) (mRet (mCall (r .is_block) 3 [] (mConsA (m2 ixD (mVar 0) (mC (.int 2))) (mConsA (mMethP "Place" "within_function" m_Place_within_function 1 [] (mVar 1) (mNilA)) (mConsA (m2 addD (mVar 2) (mC (.int 1))) (mNilA))))))) (mSkip)) (mSeq (mIf (mOr (mB (m2 eqD (mVar 3) (mC (.str "")))) (mB (m2 neD (mCallB lenD (mConsA (mVar 0) (mNilA))) (mC (.int 2))))) (mRet (mC (.bl false))) (mSkip)) (mSeq (mIf (mB (m2 eqD (mVar 3) (mC (.str "field")))) (mRet (mMethP "Place" "has_field" m_Place_has_field 2 [] (mVar 1) (mConsA (m2 ixD (mVar 0) (mC (.int 1))) (mNilA)))) (mSkip)) (mSeq (mIf (mB (m2 eqD (mVar 3) (mC (.str "new")))) (mRet (mMethP "Place" "has_class" m_Place_has_class 2 [] (mVar 1) (mConsA (m2 ixD (mVar 0) (mC (.int 1))) (mNilA)))) (mSkip)) (mRet (mAndV (m2 inD (mVar 3) (mTup (mConsA (mC (.str "word")) (mConsA (mC (.str "name")) (mNilA))))) (mCall m_is_name 1 [] (mConsA (m2 ixD (mVar 0) (mC (.int 1))) (mNilA)))))))))))
def b_are_things (r : F_is_simple → MF) : MS := mSeq (mIf (mOr (mNot (mB (mIs .tup (mVar 0)))) (mB (m2 gtD (mCallB lenD (mConsA (mVar 0) (mNilA))) (mC (.int 3))))) (mRet (mC (.bl false))) (mSkip)) (mSeq (mFor (mIt (mVar 0)) (bN 3) (mIf (mNot (mB (mCall (r .is_simple) 3 [] (mConsA (mVar 3) (mConsA (mVar 1) (mConsA (mVar 2) (mNilA))))))) (mRet (mC (.bl false))) (mSkip))) (mRet (mC (.bl true))))
def b_is_right (r : F_is_simple → MF) : MS := mSeq (mAsg (mCall m_head 1 [] (mConsA (mVar 0) (mNilA))) (bN 3)) (mSeq (mIf (mB (m2 eqD (mVar 3) (mC (.str "call")))) (mRet (mAndV (m2 eqD (mCallB lenD (mConsA (mVar 0) (mNilA))) (mC (.int 3))) (mAndV (mCall (r .is_simple) 3 [] (mConsA (m2 ixD (mVar 0) (mC (.int 1))) (mConsA (mVar 1) (mConsA (mVar 2) (mNilA))))) (mCall (r .are_things) 3 [] (mConsA (m2 ixD (mVar 0) (mC (.int 2))) (mConsA (mVar 1) (mConsA (mVar 2) (mNilA)))))))) (mSkip)) (mSeq (mIf (mB (m2 eqD (mVar 3) (mC (.str "ask")))) (mSeq (mIf (mOr (mB (m2 neD (mCallB lenD (mConsA (mVar 0) (mNilA))) (mC (.int 4)))) (mNot (mB (mCall (r .is_simple) 3 [] (mConsA (m2 ixD (mVar 0) (mC (.int 1))) (mConsA (mVar 1) (mConsA (mVar 2) (mNilA)))))))) (mRet (mC (.bl false))) (mSkip)) (mRet (mAndV (mCall m_is_name 1 [] (mConsA (m2 ixD (mVar 0) (mC (.int 2))) (mNilA))) (mCall (r .are_things) 3 [] (mConsA (m2 ixD (mVar 0) (mC (.int 3))) (mConsA (mVar 1) (mConsA (mVar 2) (mNilA)))))))) (mSkip)) (mSeq (mIf (mB (m2 eqD (mVar 3) (mC (.str "parent")))) (mSeq (mIf (mOr (mB (m2 neD (mCallB lenD (mConsA (mVar 0) (mNilA))) (mC (.int 3)))) (mNot (mB (mFld fok_has_parent "has_parent" (mVar 1))))) (mRet (mC (.bl false))) (mSkip)) (mRet (mAndV (mCall m_is_name 1 [] (mConsA (m2 ixD (mVar 0) (mC (.int 1))) (mNilA))) (mCall (r .are_things) 3 [] (mConsA (m2 ixD (mVar 0) (mC (.int 2))) (mConsA (mVar 1) (mConsA (mVar 2) (mNilA)))))))) (mSkip)) (mRet (mCall (r .is_simple) 3 [] (mConsA (mVar 0) (mConsA (mVar 1) (mConsA (mVar 2) (mNilA)))))))))
def b_is_test (r : F_is_simple → MF) : MS := mSeq (mAsg (mCall m_head 1 [] (mConsA (mVar 0) (mNilA))) (bN 4)) (mSeq (mIf (mB (m2 eqD (mVar 3) (mC (.int 0)))) (mRet (mC (.bl false))) (mSkip)) (mSeq (mIf (mB (m2 eqD (mVar 4) (mC (.str "same")))) (mRet (mAndV (m2 eqD (mCallB lenD (mConsA (mVar 0) (mNilA))) (mC (.int 3))) (mAndV (mCall (r .is_simple) 3 [] (mConsA (m2 ixD (mVar 0) (mC (.int 1))) (mConsA (mVar 1) (mConsA (mVar 2) (mNilA))))) (mCall (r .is_simple) 3 [] (mConsA (m2 ixD (mVar 0) (mC (.int 2))) (mConsA (mVar 1) (mConsA (mVar 2) (mNilA)))))))) (mSkip)) (mSeq (mIf (mB (m2 eqD (mVar 4) (mC (.str "not")))) (mRet (mAndV (m2 eqD (mCallB lenD (mConsA (mVar 0) (mNilA))) (mC (.int 2))) (mCall (r .is_test) 4 [] (mConsA (m2 ixD (mVar 0) (mC (.int 1))) (mConsA (mVar 1) (mConsA (mVar 2) (mConsA (m2 subD (mVar 3) (mC (.int 1))) (mNilA)))))))) (mSkip)) (mSeq (mIf (mAnd (mB (m2 neD (mVar 4) (mC (.str "both")))) (mB (m2 neD (mVar 4) (mC (.str "either"))))) (mRet (mC (.bl false))) (mSkip)) (mSeq (mIf (mOr (mB (m2 neD (mCallB lenD (mConsA (mVar 0) (mNilA))) (mC (.int 3)))) (mNot (mB (mCall (r .is_test) 4 [] (mConsA (m2 ixD (mVar 0) (mC (.int 1))) (mConsA (mVar 1) (mConsA (mVar 2) (mConsA (m2 subD (mVar 3) (mC (.int 1))) (mNilA))))))))) (mRet (mC (.bl false))) (mSkip)) (mRet (mCall (r .is_test) 4 [] (mConsA (m2 ixD (mVar 0) (mC (.int 2))) (mConsA (mVar 1) (mConsA (mVar 2) (mConsA (m2 subD (mVar 3) (mC (.int 1))) (mNilA))))))))))))
def b_is_short (r : F_is_simple → MF) : MS := mSeq (mAsg (mCall m_head 1 [] (mConsA (mVar 0) (mNilA))) (bN 3)) (mSeq (mIf (mOr (mB (m2 eqD (mVar 3) (mC (.str "let")))) (mB (m2 eqD (mVar 3) (mC (.str "set"))))) (mRet (mAndV (m2 eqD (mCallB lenD (mConsA (mVar 0) (mNilA))) (mC (.int 3))) (mAndV (mCall m_is_name 1 [] (mConsA (m2 ixD (mVar 0) (mC (.int 1))) (mNilA))) (mCall (r .is_right) 3 [] (mConsA (m2 ixD (mVar 0) (mC (.int 2))) (mConsA (mVar 1) (mConsA (mVar 2) (mNilA)))))))) (mSkip)) (mSeq (mIf (mB (m2 eqD (mVar 3) (mC (.str "keep")))) (mRet (mAndV (m2 eqD (mCallB lenD (mConsA (mVar 0) (mNilA))) (mC (.int 3))) (mAndV (mMethP "Place" "has_field" m_Place_has_field 2 [] (mVar 1) (mConsA (m2 ixD (mVar 0) (mC (.int 1))) (mNilA))) (mCall (r .is_right) 3 [] (mConsA (m2 ixD (mVar 0) (mC (.int 2))) (mConsA (mVar 1) (mConsA (mVar 2) (mNilA)))))))) (mSkip)) (mSeq (mIf (mB (m2 eqD (mVar 3) (mC (.str "print")))) (mRet (mAndV (m2 eqD (mCallB lenD (mConsA (mVar 0) (mNilA))) (mC (.int 2))) (mCall (r .is_simple) 3 [] (mConsA (m2 ixD (mVar 0) (mC (.int 1))) (mConsA (mVar 1) (mConsA (mVar 2) (mNilA))))))) (mSkip)) (mSeq (mIf (mB (m2 eqD (mVar 3) (mC (.str "return")))) (mRet (mAndV (mFld fok_may_return "may_return" (mVar 1)) (mAndV (m2 eqD (mCallB lenD (mConsA (mVar 0) (mNilA))) (mC (.int 2))) (mCall (r .is_right) 3 [] (mConsA (m2 ixD (mVar 0) (mC (.int 1))) (mConsA (mVar 1) (mConsA (mVar 2) (mNilA)))))))) (mSkip)) (mSeq (mIf (mOr (mB (m2 eqD (mVar 3) (mC (.str "do")))) (mB (m2 eqD (mVar 3) (mC (.str "raise"))))) (mRet (mAndV (m2 eqD (mCallB lenD (mConsA (mVar 0) (mNilA))) (mC (.int 2))) (mCall (r .is_right) 3 [] (mConsA (m2 ixD (mVar 0) (mC (.int 1))) (mConsA (mVar 1) (mConsA (mVar 2) (mNilA))))))) (mSkip)) (mRet (mC (.bl false))))))))
def b_is_statement (r : F_is_simple → MF) : MS := mSeq (mAsg (mCall m_head 1 [] (mConsA (mVar 0) (mNilA))) (bN 3)) (mSeq (mIf (mB (m2 eqD (mVar 3) (mC (.str "if")))) (mSeq (mIf (mOr (mB (m2 neD (mCallB lenD (mConsA (mVar 0) (mNilA))) (mC (.int 4)))) (mNot (mB (mCall (r .is_test) 4 [(D.int 3)] (mConsA (m2 ixD (mVar 0) (mC (.int 1))) (mConsA (mVar 1) (mConsA (mVar 2) (mNilA)))))))) (mRet (mC (.bl false))) (mSkip)) (mRet (mAndV (mCall (r .is_block) 3 [] (mConsA (m2 ixD (mVar 0) (mC (.int 2))) (mConsA (mVar 1) (mConsA (m2 addD (mVar 2) (mC (.int 1))) (mNilA))))) (mCall (r .is_block) 3 [] (mConsA (m2 ixD (mVar 0) (mC (.int 3))) (mConsA (mVar 1) (mConsA (m2 addD (mVar 2) (mC (.int 1))) (mNilA)))))))) (mSkip)) (mSeq (mIf (mB (m2 eqD (mVar 3) (mC (.str "while")))) (mRet (mAndV (m2 eqD (mCallB lenD (mConsA (mVar 0) (mNilA))) (mC (.int 3))) (mAndV (mCall (r .is_test) 4 [(D.int 3)] (mConsA (m2 ixD (mVar 0) (mC (.int 1))) (mConsA (mVar 1) (mConsA (mVar 2) (mNilA))))) (mCall (r .is_block) 3 [] (mConsA (m2 ixD (mVar 0) (mC (.int 2))) (mConsA (mVar 1) (mConsA (m2 addD (mVar 2) (mC (.int 1))) (mNilA)))))))) (mSkip)) (mSeq (mIf (mB (m2 eqD (mVar 3) (mC (.str "try")))) (mSeq (mIf (mOr (mB (m2 neD (mCallB lenD (mConsA (mVar 0) (mNilA))) (mC (.int 4)))) (mNot (mB (mCall m_is_name 1 [] (mConsA (m2 ixD (mVar 0) (mC (.int 2))) (mNilA)))))) (mRet (mC (.bl false))) (mSkip)) (mRet (mAndV (mCall (r .is_block) 3 [] (mConsA (m2 ixD (mVar 0) (mC (.int 1))) (mConsA (mVar 1) (mConsA (m2 addD (mVar 2) (mC (.int 1))) (mNilA))))) (mCall (r .is_block) 3 [] (mConsA (m2 ixD (mVar 0) (mC (.int 3))) (mConsA (mVar 1) (mConsA (m2 addD (mVar 2) (mC (.int 1))) (mNilA)))))))) (mSkip)) (mSeq (mIf (mB (m2 eqD (mVar 3) (mC (.str "last")))) (mRet (mAndV (m2 eqD (mCallB lenD (mConsA (mVar 0) (mNilA))) (mC (.int 3))) (mAndV (mCall (r .is_block) 3 [] (mConsA (m2 ixD (mVar 0) (mC (.int 1))) (mConsA (mVar 1) (mConsA (m2 addD (mVar 2) (mC (.int 1))) (mNilA))))) (mCall (r .is_block) 3 [] (mConsA (m2 ixD (mVar 0) (mC (.int 2))) (mConsA (mVar 1) (mConsA (m2 addD (mVar 2) (mC (.int 1))) (mNilA)))))))) (mSkip)) (mRet (mCall (r .is_short) 3 [] (mConsA (mVar 0) (mConsA (mVar 1) (mConsA (mVar 2) (mNilA))))))))))
def b_is_block (r : F_is_simple → MF) : MS := mSeq (mIf (mOr (mNot (mB (mIs .tup (mVar 0)))) (mOr (mB (m2 gtD (mCallB lenD (mConsA (mVar 0) (mNilA))) (mC (.int 12)))) (mB (m2 gtD (mVar 2) (mC (.int 8)))))) (mRet (mC (.bl false))) (mSkip)) (mSeq (mFor (mIt (mVar 0)) (bN 3) (mIf (mNot (mB (mCall (r .is_statement) 3 [] (mConsA (mVar 3) (mConsA (mVar 1) (mConsA (mVar 2) (mNilA))))))) (mRet (mC (.bl false))) (mSkip))) (mRet (mC (.bl true))))
def r_is_simple : Nat → F_is_simple → MF
  | 0, _ => fun _ _ => .stuck
  | n + 1, x => match x with
    | .is_simple => mFn 3 4 (b_is_simple (r_is_simple n))
    | .are_things => mFn 3 4 (b_are_things (r_is_simple n))
    | .is_right => mFn 3 4 (b_is_right (r_is_simple n))
    | .is_test => mFn 4 5 (b_is_test (r_is_simple n))
    | .is_short => mFn 3 4 (b_is_short (r_is_simple n))
    | .is_statement => mFn 3 4 (b_is_statement (r_is_simple n))
    | .is_block => mFn 3 4 (b_is_block (r_is_simple n))
def m_is_simple : MF := r_is_simple 80 .is_simple
def m_are_things : MF := r_is_simple 80 .are_things
def m_is_right : MF := r_is_simple 80 .is_right
def m_is_test : MF := r_is_simple 80 .is_test
def m_is_short : MF := r_is_simple 80 .is_short
def m_is_statement : MF := r_is_simple 80 .is_statement
def m_is_block : MF := r_is_simple 80 .is_block
def b_are_fields : MS := mSeq (mIf (mOr (mNot (mB (mIs .dct (mVar 0)))) (mB (m2 gtD (mCallB lenD (mConsA (mVar 0) (mNilA))) (mC (.int 3))))) (mRet (mC (.bl false))) (mSkip)) (mSeq (mLock (mdOf (mVar 0)) (mFor (mWalk gItem (mVar 0)) (bT [1, 2]) (mIf (mOr (mNot (mB (mCall m_is_name 1 [] (mConsA (mVar 1) (mNilA))))) (mOr (mNot (mB (mCall m_are_names 2 [] (mConsA (mVar 2) (mConsA (mC (.int 4)) (mNilA)))))) (mB (m2 eqD (mCallB lenD (mConsA (mVar 2) (mNilA))) (mC (.int 0)))))) (mRet (mC (.bl false))) (mSkip)))) (mRet (mC (.bl true))))
def m_are_fields : MF := mFn 1 3 b_are_fields
def b_are_methods : MS := mSeq (mIf (mOr (mNot (mB (mIs .dct (mVar 0)))) (mB (m2 gtD (mCallB lenD (mConsA (mVar 0) (mNilA))) (mC (.int 5))))) (mRet (mC (.bl false))) (mSkip)) (mSeq (mLock (mdOf (mVar 0)) (mFor (mWalk gItem (mVar 0)) (bT [1, 2]) (mSeq (mIf (mOr (mNot (mB (mCall m_is_name 1 [] (mConsA (mVar 1) (mNilA))))) (mOr (mNot (mB (mIs .tup (mVar 2)))) (mB (m2 neD (mCallB lenD (mConsA (mVar 2) (mNilA))) (mC (.int 2)))))) (mRet (mC (.bl false))) (mSkip)) (mIf (mNot (mB (mCall m_are_names 2 [] (mConsA (m2 ixD (mVar 2) (mC (.int 0))) (mConsA (mC (.int 3)) (mNilA)))))) (mRet (mC (.bl false))) (mSkip))))) (mRet (mC (.bl true))))
def m_are_methods : MF := mFn 1 3 b_are_methods
def b_is_outline : MS := mSeq (mIf (mOr (mNot (mB (mIs .tup (mVar 0)))) (mB (m2 neD (mCallB lenD (mConsA (mVar 0) (mNilA))) (mC (.int 4))))) (mRet (mC (.bl false))) (mSkip)) (mSeq (mIf (mAnd (mB (m1 notND (m2 ixD (mVar 0) (mC (.int 0))))) (mNot (mB (mCall m_is_name 1 [] (mConsA (m2 ixD (mVar 0) (mC (.int 0))) (mNilA)))))) (mRet (mC (.bl false))) (mSkip)) (mSeq (mIf (mOr (mNot (mB (mIs .str (m2 ixD (mVar 0) (mC (.int 1)))))) (mB (m2 notInD (m2 ixD (mVar 0) (mC (.int 1))) (mTup (mConsA (mC (.str "open")) (mConsA (mC (.str "closed")) (mNilA))))))) (mRet (mC (.bl false))) (mSkip)) (mRet (mAndV (mCall m_are_fields 1 [] (mConsA (m2 ixD (mVar 0) (mC (.int 2))) (mNilA))) (mCall m_are_methods 1 [] (mConsA (m2 ixD (mVar 0) (mC (.int 3))) (mNilA)))))))
def m_is_outline : MF := mFn 1 1 b_is_outline
def b_parents_end : MS := mSeq (mAsg (m2 ixD (m2 ixD (mVar 0) (mVar 1)) (mC (.int 0))) (bN 2)) (mSeq (mFor (mRng1 (mConsA (mC (.int 8)) (mNilA))) (bN 3) (mSeq (mIf (mB (m1 isND (mVar 2))) (mRet (mC (.bl true))) (mSkip)) (mSeq (mIf (mOr (mB (m2 notInD (mVar 2) (mVar 0))) (mB (m2 neD (m2 ixD (m2 ixD (mVar 0) (mVar 2)) (mC (.int 1))) (mC (.str "open"))))) (mRet (mC (.bl false))) (mSkip)) (mAsg (m2 ixD (m2 ixD (mVar 0) (mVar 2)) (mC (.int 0))) (bN 2))))) (mRet (mC (.bl false))))
def m_parents_end : MF := mFn 2 4 b_parents_end
def b_are_outlines : MS := mSeq (mIf (mOr (mNot (mB (mIs .dct (mVar 0)))) (mB (m2 gtD (mCallB lenD (mConsA (mVar 0) (mNilA))) (mC (.int 8))))) (mRet (mC (.bl false))) (mSkip)) (mSeq (mLock (mdOf (mVar 0)) (mFor (mWalk gItem (mVar 0)) (bT [1, 2]) (mIf (mOr (mNot (mB (mCall m_is_name 1 [] (mConsA (mVar 1) (mNilA))))) (mNot (mB (mCall m_is_outline 1 [] (mConsA (mVar 2) (mNilA)))))) (mRet (mC (.bl false))) (mSkip)))) (mSeq (mLock (mdOf (mVar 0)) (mFor (mWalk gKey (mVar 0)) (bN 1) (mIf (mNot (mB (mCall m_parents_end 2 [] (mConsA (mVar 0) (mConsA (mVar 1) (mNilA)))))) (mRet (mC (.bl false))) (mSkip)))) (mRet (mC (.bl true)))))
def m_are_outlines : MF := mFn 1 3 b_are_outlines
def b_bad_method : MS := mSeq (mAsg (mMake "Place" m_Place___init__ 5 [] (mConsA (mCallB tupleD (mConsA (mCallB sortedD (mConsA (m2 ixD (mVar 0) (mC (.int 2))) (mNilA))) (mNilA))) (mConsA (m1 notND (m2 ixD (mVar 0) (mC (.int 0)))) (mConsA (mVar 1) (mConsA (mC (.bl true)) (mNilA)))))) (bN 2)) (mSeq (mFor (mIt (mCallB sortedD (mConsA (m2 ixD (mVar 0) (mC (.int 3))) (mNilA)))) (bN 3) (mIf (mNot (mB (mCall m_is_block 3 [] (mConsA (m2 ixD (m2 ixD (m2 ixD (mVar 0) (mC (.int 3))) (mVar 3)) (mC (.int 1))) (mConsA (mVar 2) (mConsA (mC (.int 1)) (mNilA))))))) (mRet (mVar 3)) (mSkip))) (mRet (mC .non)))
def m_bad_method : MF := mFn 2 4 b_bad_method
def b_copied : MS := mRet (mTup (mConsA (m2 ixD (mVar 0) (mC (.int 0))) (mConsA (m2 ixD (mVar 0) (mC (.int 1))) (mConsA (mCallB dictD (mConsA (m2 ixD (mVar 0) (mC (.int 2))) (mNilA))) (mConsA (mCallB dictD (mConsA (m2 ixD (mVar 0) (mC (.int 3))) (mNilA))) (mNilA))))))
def m_copied : MF := mFn 1 1 b_copied
def b_copied_classes : MS := mRet (mLockE (mdOf (mVar 0)) (mDc (mWalk gItem (mVar 0)) (bT [1, 2]) (mYes) (mVar 1) (mCall m_copied 1 [] (mConsA (mVar 2) (mNilA))) [1, 2]))
def m_copied_classes : MF := mFn 1 3 b_copied_classes
def b_bad_part : MS := mSeq (mIf (mNot (mB (mCall m_are_outlines 1 [] (mConsA (mVar 0) (mNilA))))) (mRet (mC (.str "classes"))) (mSkip)) (mSeq (mAsg (mCallB tupleD (mConsA (mCallB sortedD (mConsA (mVar 0) (mNilA))) (mNilA))) (bN 2)) (mSeq (mFor (mIt (mVar 2)) (bN 3) (mSeq (mAsg (mCall m_bad_method 2 [] (mConsA (m2 ixD (mVar 0) (mVar 3)) (mConsA (mVar 2) (mNilA)))) (bN 4)) (mIf (mB (m1 notND (mVar 4))) (mRet (m2 addD (m2 addD (mVar 3) (mC (.str "."))) (mVar 4))) (mSkip)))) (mSeq (mIf (mNot (mB (mCall m_is_block 3 [] (mConsA (mVar 1) (mConsA (mMake "Place" m_Place___init__ 5 [] (mConsA (mC .non) (mConsA (mC (.bl false)) (mConsA (mVar 2) (mConsA (mC (.bl false)) (mNilA)))))) (mConsA (mC (.int 1)) (mNilA))))))) (mRet (mC (.str "body"))) (mSkip)) (mRet (mC .non)))))
def m_bad_part : MF := mFn 2 5 b_bad_part
def b_law_mix : MS := mSeq (mAsg (m2 modD (m2 mulD (m2 addD (m2 addD (mVar 0) (m2 modD (mCallB intD (mConsA (mVar 1) (mNilA))) (mC (.int 2147483629)))) (mC (.int 7919))) (mC (.int 48271))) (mC (.int 2147483647))) (bN 2)) (mSeq (mAsg (m2 modD (m2 mulD (mVar 2) (m2 addD (m2 fdivD (mVar 2) (mC (.int 1009))) (mC (.int 69621)))) (mC (.int 2147483647))) (bN 2)) (mRet (m2 modD (m2 mulD (mVar 2) (m2 addD (m2 fdivD (mVar 2) (mC (.int 2003))) (mC (.int 40692)))) (mC (.int 2147483399)))))
def m_law_mix : MF := mFn 2 3 b_law_mix
def b_law_start : MS := mRet (mLst (mConsA (mCallB listD (mConsA (mSl (mVar 0) (mNoPart) (mPart (mC (.int 63)))) (mNilA))) (mConsA (mC (.int 0)) (mConsA (mC (.int 0)) (mConsA (mC (.int 5)) (mNilA))))))
def m_law_start : MF := mFn 1 1 b_law_start
def b_law_draw : MS := mSeq (mAsg (m2 ixD (mVar 0) (mC (.int 0))) (bN 2)) (mSeq (mIf (mAnd (mB (m2 eqD (m2 ixD (mVar 0) (mC (.int 2))) (mC (.int 0)))) (mAnd (mB (m2 ltD (m2 ixD (mVar 0) (mC (.int 1))) (mCallB lenD (mConsA (mVar 2) (mNilA))))) (mB (m2 geD (m2 ixD (mVar 2) (m2 ixD (mVar 0) (mC (.int 1)))) (m2 powD (mC (.int 10)) (mC (.int 18))))))) (mSeq (mStore setD (mVar 0) (mC (.int 2)) (m2 ixD (mVar 2) (m2 ixD (mVar 0) (mC (.int 1))))) (mAugS iaddD (mVar 0) (mC (.int 1)) (mC (.int 1)))) (mSkip)) (mSeq (mIf (mB (m2 gtD (m2 ixD (mVar 0) (mC (.int 2))) (mC (.int 0)))) (mSeq (mAsg (m2 modD (mCallB intD (mConsA (m2 ixD (mVar 0) (mC (.int 2))) (mNilA))) (mVar 1)) (bN 3)) (mSeq (mStore setD (mVar 0) (mC (.int 2)) (m2 fdivD (m2 ixD (mVar 0) (mC (.int 2))) (mVar 1))) (mRet (mVar 3)))) (mSkip)) (mSeq (mAsg (m2 ixD (mVar 0) (mC (.int 1))) (bN 4)) (mSeq (mIf (mB (m2 ltD (m2 ixD (mVar 0) (mC (.int 1))) (mCallB lenD (mConsA (mVar 2) (mNilA))))) (mAsg (m2 addD (mVar 4) (m2 ixD (mVar 2) (m2 ixD (mVar 0) (mC (.int 1))))) (bN 4)) (mSkip)) (mSeq (mAugS iaddD (mVar 0) (mC (.int 1)) (mC (.int 1))) (mSeq (mStore setD (mVar 0) (mC (.int 3)) (mCall m_law_mix 2 [] (mConsA (m2 ixD (mVar 0) (mC (.int 3))) (mConsA (mVar 4) (mNilA))))) (mRet (m2 modD (m2 fdivD (mCallB intD (mConsA (m2 ixD (mVar 0) (mC (.int 3))) (mNilA))) (mC (.int 16))) (mVar 1)))))))))
def m_law_draw : MF := mFn 2 5 b_law_draw
def b_law_tools : MS := mSeq (mAsg (mDisp [(mC (.str "method"), m2 eqD (mCall m_law_draw 2 [] (mConsA (mVar 0) (mConsA (mC (.int 2)) (mNilA)))) (mC (.int 1))), (mC (.str "room"), m2 addD (mC (.int 24)) (mCall m_law_draw 2 [] (mConsA (mVar 0) (mConsA (mC (.int 17)) (mNilA))))), (mC (.str "done"), mC (.bl false)), (mC (.str "at"), m1 negD (mC (.int 1)))]) (bN 1)) (mSeq (mIf (mB (m2 gtD (mCall m_law_draw 2 [] (mConsA (mVar 0) (mConsA (mC (.int 4)) (mNilA)))) (mC (.int 0)))) (mStore setD (mVar 1) (mC (.str "at")) (mCall m_law_draw 2 [] (mConsA (mVar 0) (mConsA (mC (.int 30)) (mNilA))))) (mSkip)) (mSeq (mStore setD (mVar 1) (mC (.str "kind")) (mCall m_law_draw 2 [] (mConsA (mVar 0) (mConsA (mC (.int 6)) (mNilA))))) (mSeq (mStore setD (mVar 1) (mC (.str "value")) (m2 ixD (mLst (mConsA (mC (.int 7)) (mConsA (mC (.bl true)) (mConsA (mC .non) (mConsA (mC (.str "name")) (mConsA (mC (.str "none")) (mConsA (mLst (mNilA)) (mConsA (mDict0) (mConsA (mTup (mConsA (mC (.str "name")) (mNilA))) (mNilA)))))))))) (mCall m_law_draw 2 [] (mConsA (mVar 0) (mConsA (mC (.int 8)) (mNilA)))))) (mRet (mVar 1)))))
def m_law_tools : MF := mFn 1 2 b_law_tools
def b_law_hit : MS := mSeq (mAugS subD (mVar 0) (mC (.str "at")) (mC (.int 1))) (mSeq (mIf (mAnd (mB (m2 eqD (m2 ixD (mVar 0) (mC (.str "at"))) (m1 negD (mC (.int 1))))) (mNot (mB (m2 ixD (mVar 0) (mC (.str "done")))))) (mSeq (mStore setD (mVar 0) (mC (.str "done")) (mC (.bl true))) (mRet (mC (.bl true)))) (mSkip)) (mRet (mC (.bl false))))
def m_law_hit : MF := mFn 1 1 b_law_hit
def b_law_part : MS := mSeq (mIf (mNot (mB (mCall m_law_hit 1 [] (mConsA (mVar 0) (mNilA))))) (mRet (mVar 1)) (mSkip)) (mSeq (mIf (mB (m2 eqD (m2 ixD (mVar 0) (mC (.str "kind"))) (mC (.int 0)))) (mRet (mCallB listD (mConsA (mVar 1) (mNilA)))) (mSkip)) (mSeq (mIf (mB (m2 eqD (m2 ixD (mVar 0) (mC (.str "kind"))) (mC (.int 1)))) (mRet (m2 addD (mVar 1) (mTup (mConsA (mTup (mConsA (mC (.str "none")) (mNilA))) (mNilA))))) (mSkip)) (mSeq (mIf (mB (m2 eqD (m2 ixD (mVar 0) (mC (.str "kind"))) (mC (.int 2)))) (mRet (mSl (mVar 1) (mNoPart) (mPart (m1 negD (mC (.int 1)))))) (mSkip)) (mSeq (mIf (mB (m2 eqD (m2 ixD (mVar 0) (mC (.str "kind"))) (mC (.int 3)))) (mRet (m2 addD (mTup (mConsA (m2 addD (m2 ixD (mVar 1) (mC (.int 0))) (mC (.str "s"))) (mNilA))) (mSl (mVar 1) (mPart (mC (.int 1))) (mNoPart)))) (mSkip)) (mSeq (mIf (mB (m2 eqD (m2 ixD (mVar 0) (mC (.str "kind"))) (mC (.int 4)))) (mRet (m2 ixD (mVar 0) (mC (.str "value")))) (mSkip)) (mRet (mTup (mConsA (mVar 1) (mNilA)))))))))
def m_law_part : MF := mFn 2 2 b_law_part
def b_law_row : MS := mSeq (mIf (mNot (mB (mCall m_law_hit 1 [] (mConsA (mVar 0) (mNilA))))) (mRet (mVar 1)) (mSkip)) (mSeq (mIf (mB (m2 ltD (m2 ixD (mVar 0) (mC (.str "kind"))) (mC (.int 2)))) (mRet (mCallB listD (mConsA (mVar 1) (mNilA)))) (mSkip)) (mSeq (mIf (mB (m2 ltD (m2 ixD (mVar 0) (mC (.str "kind"))) (mC (.int 4)))) (mRet (mSl (m2 addD (mVar 1) (mVar 2)) (mNoPart) (mPart (mC (.int 4))))) (mSkip)) (mRet (m2 addD (mSl (mVar 1) (mNoPart) (mPart (mC (.int 1)))) (mVar 3)))))
def m_law_row : MF := mFn 4 4 b_law_row
def b_law_name : MS := mSeq (mAsg (mC (.str "abcdefghijklmnopqrstuvwxyz")) (bN 1)) (mSeq (mAsg (m2 addD (mC (.int 1)) (mCall m_law_draw 2 [] (mConsA (mVar 0) (mConsA (mC (.int 8)) (mNilA))))) (bN 2)) (mRet (mMeth isStr joinD (mC (.str "")) (mConsA (mLc (mRng1 (mConsA (mVar 2) (mNilA))) (bN 3) (mYes) (m2 ixD (mVar 1) (mCall m_law_draw 2 [] (mConsA (mVar 0) (mConsA (mC (.int 26)) (mNilA))))) [3]) (mNilA)))))
def m_law_name : MF := mFn 1 4 b_law_name
def b_law_params : MS := mSeq (mAsg (m2 ixD (mLst (mConsA (mTup (mConsA (mC (.str "x")) (mConsA (mC (.str "yy")) (mConsA (mC (.str "z")) (mNilA))))) (mConsA (mTup (mConsA (mC (.str "b")) (mConsA (mC (.str "a")) (mNilA)))) (mConsA (mTup (mConsA (mC (.str "name")) (mNilA))) (mConsA (mTup (mNilA)) (mConsA (mTup (mConsA (mC (.str "fn")) (mConsA (mC (.str "me")) (mConsA (mC (.str "none")) (mNilA))))) (mNilA))))))) (mCall m_law_draw 2 [] (mConsA (mVar 0) (mConsA (mC (.int 5)) (mNilA))))) (bN 2)) (mRet (mCall m_law_row 4 [] (mConsA (mVar 1) (mConsA (mVar 2) (mConsA (mTup (mConsA (mC (.str "p")) (mConsA (mC (.str "q")) (mConsA (mC (.str "r")) (mConsA (mC (.str "s")) (mNilA)))))) (mConsA (mTup (mConsA (mC (.str "x")) (mConsA (mC (.str "x")) (mNilA)))) (mNilA)))))))
def m_law_params : MF := mFn 2 3 b_law_params
inductive F_law_things where
  | law_things
  | law_simple
  | law_right
  | law_test
  | law_statement
  | law_block
def b_law_things (r : F_law_things → MF) : MS := mSeq (mAsg (mC (.int 0)) (bN 3)) (mSeq (mIf (mB (m2 gtD (m2 ixD (mVar 1) (mC (.str "room"))) (mC (.int 0)))) (mAsg (mCall m_law_draw 2 [] (mConsA (mVar 0) (mConsA (mC (.int 4)) (mNilA)))) (bN 3)) (mSkip)) (mSeq (mAsg (mCallB tupleD (mConsA (mLc (mRng1 (mConsA (mVar 3) (mNilA))) (bN 6) (mYes) (mCall (r .law_simple) 3 [] (mConsA (mVar 0) (mConsA (mVar 1) (mConsA (mVar 2) (mNilA))))) [6]) (mNilA))) (bN 4)) (mSeq (mAsg (mTup (mConsA (mC (.str "none")) (mNilA))) (bN 5)) (mRet (mCall m_law_row 4 [] (mConsA (mVar 1) (mConsA (mVar 4) (mConsA (mTup (mConsA (mVar 5) (mConsA (mVar 5) (mConsA (mVar 5) (mConsA (mVar 5) (mNilA)))))) (mConsA (mTup (mConsA (mTup (mConsA (mC (.str "call")) (mConsA (mTup (mConsA (mC (.str "name")) (mConsA (mC (.str "x")) (mNilA)))) (mConsA (mTup (mNilA)) (mNilA))))) (mNilA))) (mNilA))))))))))
def b_law_simple (r : F_law_things → MF) : MS := mSeq (mAugS subD (mVar 1) (mC (.str "room")) (mC (.int 1))) (mSeq (mAsg (mCall m_law_draw 2 [] (mConsA (mVar 0) (mConsA (mC (.int 9)) (mNilA)))) (bN 3)) (mSeq (mIf (mOr (mB (m2 leD (m2 ixD (mVar 1) (mC (.str "room"))) (mC (.int 0)))) (mB (m2 gtD (mVar 2) (mC (.int 7))))) (mAsg (m2 modD (mVar 3) (mC (.int 4))) (bN 3)) (mSkip)) (mSeq (mAsg (mTup (mConsA (mC (.str "none")) (mNilA))) (bN 4)) (mSeq (mIf (mB (m2 eqD (mVar 3) (mC (.int 1)))) (mAsg (mTup (mConsA (mC (.str "word")) (mConsA (mCall m_law_name 1 [] (mConsA (mVar 0) (mNilA))) (mNilA)))) (bN 4)) (mSkip)) (mSeq (mIf (mOr (mB (m2 eqD (mVar 3) (mC (.int 2)))) (mB (m2 eqD (mVar 3) (mC (.int 4))))) (mAsg (mTup (mConsA (mC (.str "name")) (mConsA (mCall m_law_name 1 [] (mConsA (mVar 0) (mNilA))) (mNilA)))) (bN 4)) (mSkip)) (mSeq (mIf (mOr (mB (m2 eqD (mVar 3) (mC (.int 3)))) (mB (m2 eqD (mVar 3) (mC (.int 5))))) (mSeq (mAsg (mTup (mConsA (mC (.str "new")) (mConsA (m2 ixD (mLst (mConsA (mC (.str "box")) (mConsA (mC (.str "top")) (mNilA)))) (mCall m_law_draw 2 [] (mConsA (mVar 0) (mConsA (mC (.int 2)) (mNilA))))) (mNilA)))) (bN 4)) (mIf (mB (m2 ixD (mVar 1) (mC (.str "method")))) (mAsg (m2 ixD (mLst (mConsA (mTup (mConsA (mC (.str "me")) (mNilA))) (mConsA (mTup (mConsA (mC (.str "field")) (mConsA (mC (.str "f")) (mNilA)))) (mConsA (mTup (mConsA (mC (.str "field")) (mConsA (mC (.str "g")) (mNilA)))) (mConsA (mVar 4) (mNilA)))))) (mCall m_law_draw 2 [] (mConsA (mVar 0) (mConsA (mC (.int 4)) (mNilA))))) (bN 4)) (mSkip))) (mSkip)) (mSeq (mIf (mB (m2 gtD (mVar 3) (mC (.int 5)))) (mSeq (mAsg (mCall m_law_params 2 [] (mConsA (mVar 0) (mConsA (mVar 1) (mNilA)))) (bN 5)) (mAsg (mTup (mConsA (mC (.str "fn")) (mConsA (mVar 5) (mConsA (mCall (r .law_block) 3 [] (mConsA (mVar 0) (mConsA (mVar 1) (mConsA (m2 addD (mVar 2) (mC (.int 1))) (mNilA))))) (mNilA))))) (bN 4))) (mSkip)) (mRet (mCall m_law_part 2 [] (mConsA (mVar 1) (mConsA (mVar 4) (mNilA))))))))))))
def b_law_right (r : F_law_things → MF) : MS := mSeq (mAsg (mCall m_law_draw 2 [] (mConsA (mVar 0) (mConsA (mC (.int 6)) (mNilA)))) (bN 3)) (mSeq (mIf (mB (m2 eqD (mVar 3) (mC (.int 0)))) (mSeq (mAsg (mCall (r .law_simple) 3 [] (mConsA (mVar 0) (mConsA (mVar 1) (mConsA (mVar 2) (mNilA))))) (bN 4)) (mRet (mCall m_law_part 2 [] (mConsA (mVar 1) (mConsA (mTup (mConsA (mC (.str "call")) (mConsA (mVar 4) (mConsA (mCall (r .law_things) 3 [] (mConsA (mVar 0) (mConsA (mVar 1) (mConsA (mVar 2) (mNilA))))) (mNilA))))) (mNilA)))))) (mSkip)) (mSeq (mIf (mB (m2 eqD (mVar 3) (mC (.int 1)))) (mSeq (mAsg (mCall (r .law_simple) 3 [] (mConsA (mVar 0) (mConsA (mVar 1) (mConsA (mVar 2) (mNilA))))) (bN 4)) (mRet (mCall m_law_part 2 [] (mConsA (mVar 1) (mConsA (mTup (mConsA (mC (.str "ask")) (mConsA (mVar 4) (mConsA (mCall m_law_name 1 [] (mConsA (mVar 0) (mNilA))) (mConsA (mCall (r .law_things) 3 [] (mConsA (mVar 0) (mConsA (mVar 1) (mConsA (mVar 2) (mNilA))))) (mNilA)))))) (mNilA)))))) (mSkip)) (mSeq (mIf (mAnd (mB (m2 eqD (mVar 3) (mC (.int 2)))) (mB (m2 ixD (mVar 1) (mC (.str "method"))))) (mRet (mCall m_law_part 2 [] (mConsA (mVar 1) (mConsA (mTup (mConsA (mC (.str "parent")) (mConsA (mCall m_law_name 1 [] (mConsA (mVar 0) (mNilA))) (mConsA (mCall (r .law_things) 3 [] (mConsA (mVar 0) (mConsA (mVar 1) (mConsA (mVar 2) (mNilA))))) (mNilA))))) (mNilA))))) (mSkip)) (mRet (mCall (r .law_simple) 3 [] (mConsA (mVar 0) (mConsA (mVar 1) (mConsA (mVar 2) (mNilA)))))))))
def b_law_test (r : F_law_things → MF) : MS := mSeq (mAsg (mCall m_law_draw 2 [] (mConsA (mVar 0) (mConsA (mC (.int 4)) (mNilA)))) (bN 4)) (mSeq (mIf (mOr (mB (m2 eqD (mVar 3) (mC (.int 1)))) (mOr (mB (m2 eqD (mVar 4) (mC (.int 0)))) (mB (m2 leD (m2 ixD (mVar 1) (mC (.str "room"))) (mC (.int 0)))))) (mSeq (mAsg (mCall (r .law_simple) 3 [] (mConsA (mVar 0) (mConsA (mVar 1) (mConsA (mVar 2) (mNilA))))) (bN 5)) (mRet (mCall m_law_part 2 [] (mConsA (mVar 1) (mConsA (mTup (mConsA (mC (.str "same")) (mConsA (mVar 5) (mConsA (mCall (r .law_simple) 3 [] (mConsA (mVar 0) (mConsA (mVar 1) (mConsA (mVar 2) (mNilA))))) (mNilA))))) (mNilA)))))) (mSkip)) (mSeq (mAsg (mCall (r .law_test) 4 [] (mConsA (mVar 0) (mConsA (mVar 1) (mConsA (mVar 2) (mConsA (m2 subD (mVar 3) (mC (.int 1))) (mNilA)))))) (bN 5)) (mSeq (mIf (mB (m2 eqD (mVar 4) (mC (.int 1)))) (mRet (mCall m_law_part 2 [] (mConsA (mVar 1) (mConsA (mTup (mConsA (mC (.str "not")) (mConsA (mVar 5) (mNilA)))) (mNilA))))) (mSkip)) (mSeq (mAsg (mCall (r .law_test) 4 [] (mConsA (mVar 0) (mConsA (mVar 1) (mConsA (mVar 2) (mConsA (m2 subD (mVar 3) (mC (.int 1))) (mNilA)))))) (bN 6)) (mRet (mCall m_law_part 2 [] (mConsA (mVar 1) (mConsA (mTup (mConsA (m2 ixD (mLst (mConsA (mC (.str "both")) (mConsA (mC (.str "either")) (mNilA)))) (m2 subD (mVar 4) (mC (.int 2)))) (mConsA (mVar 5) (mConsA (mVar 6) (mNilA))))) (mNilA)))))))))
def b_law_statement (r : F_law_things → MF) : MS := mSeq (mAsg (mCall m_law_draw 2 [] (mConsA (mVar 0) (mConsA (mC (.int 8)) (mNilA)))) (bN 3)) (mSeq (mIf (mB (m2 gtD (mVar 2) (mC (.int 7)))) (mAsg (m2 addD (mC (.int 2)) (m2 modD (mVar 3) (mC (.int 6)))) (bN 3)) (mSkip)) (mSeq (mIf (mB (m2 ltD (mVar 3) (mC (.int 2)))) (mAsg (m2 addD (mTup (mConsA (m2 ixD (mLst (mConsA (mC (.str "if")) (mConsA (mC (.str "while")) (mNilA)))) (mVar 3)) (mConsA (mCall (r .law_test) 4 [] (mConsA (mVar 0) (mConsA (mVar 1) (mConsA (mVar 2) (mConsA (mC (.int 3)) (mNilA)))))) (mConsA (mTup (mNilA)) (mNilA))))) (m2 mulTD (mTup (mConsA (mTup (mNilA)) (mNilA))) (m2 subD (mC (.int 1)) (mVar 3)))) (bN 4)) (mIf (mB (m2 ltD (mVar 3) (mC (.int 4)))) (mAsg (mTup (mConsA (m2 ixD (mLst (mConsA (mC (.str "let")) (mConsA (mC (.str "set")) (mNilA)))) (m2 subD (mVar 3) (mC (.int 2)))) (mConsA (mCall m_law_name 1 [] (mConsA (mVar 0) (mNilA))) (mConsA (mCall (r .law_right) 3 [] (mConsA (mVar 0) (mConsA (mVar 1) (mConsA (mVar 2) (mNilA))))) (mNilA))))) (bN 4)) (mIf (mB (m2 eqD (mVar 3) (mC (.int 4)))) (mAsg (mTup (mConsA (mC (.str "print")) (mConsA (mCall (r .law_simple) 3 [] (mConsA (mVar 0) (mConsA (mVar 1) (mConsA (mVar 2) (mNilA))))) (mNilA)))) (bN 4)) (mIf (mAnd (mB (m2 eqD (mVar 3) (mC (.int 5)))) (mB (m2 ixD (mVar 1) (mC (.str "method"))))) (mAsg (mTup (mConsA (mC (.str "keep")) (mConsA (m2 ixD (mLst (mConsA (mC (.str "f")) (mConsA (mC (.str "g")) (mNilA)))) (mCall m_law_draw 2 [] (mConsA (mVar 0) (mConsA (mC (.int 2)) (mNilA))))) (mConsA (mCall (r .law_right) 3 [] (mConsA (mVar 0) (mConsA (mVar 1) (mConsA (mVar 2) (mNilA))))) (mNilA))))) (bN 4)) (mIf (mAnd (mB (m2 eqD (mVar 3) (mC (.int 6)))) (mOr (mB (m2 ixD (mVar 1) (mC (.str "method")))) (mB (m2 gtD (mVar 2) (mC (.int 1)))))) (mAsg (mTup (mConsA (mC (.str "return")) (mConsA (mCall (r .law_right) 3 [] (mConsA (mVar 0) (mConsA (mVar 1) (mConsA (mVar 2) (mNilA))))) (mNilA)))) (bN 4)) (mAsg (mTup (mConsA (m2 ixD (mLst (mConsA (mC (.str "do")) (mConsA (mC (.str "raise")) (mNilA)))) (mCall m_law_draw 2 [] (mConsA (mVar 0) (mConsA (mC (.int 2)) (mNilA))))) (mConsA (mCall (r .law_right) 3 [] (mConsA (mVar 0) (mConsA (mVar 1) (mConsA (mVar 2) (mNilA))))) (mNilA)))) (bN 4))))))) (mRet (mCall m_law_part 2 [] (mConsA (mVar 1) (mConsA (mVar 4) (mNilA)))))))
def b_law_block (r : F_law_things → MF) : MS := mSeq (mAsg (mC (.int 0)) (bN 3)) (mSeq (mIf (mB (m2 gtD (m2 ixD (mVar 1) (mC (.str "room"))) (mC (.int 0)))) (mAsg (m2 addD (mCall m_law_draw 2 [] (mConsA (mVar 0) (mConsA (mC (.int 3)) (mNilA)))) (mCallB intD (mConsA (m2 eqD (mVar 2) (mC (.int 1))) (mNilA)))) (bN 3)) (mSkip)) (mRet (mCallB tupleD (mConsA (mLc (mRng1 (mConsA (mVar 3) (mNilA))) (bN 4) (mYes) (mCall (r .law_statement) 3 [] (mConsA (mVar 0) (mConsA (mVar 1) (mConsA (mVar 2) (mNilA))))) [4]) (mNilA)))))
def r_law_things : Nat → F_law_things → MF
  | 0, _ => fun _ _ => .stuck
  | n + 1, x => match x with
    | .law_things => mFn 3 7 (b_law_things (r_law_things n))
    | .law_simple => mFn 3 6 (b_law_simple (r_law_things n))
    | .law_right => mFn 3 5 (b_law_right (r_law_things n))
    | .law_test => mFn 4 7 (b_law_test (r_law_things n))
    | .law_statement => mFn 3 5 (b_law_statement (r_law_things n))
    | .law_block => mFn 3 5 (b_law_block (r_law_things n))
def m_law_things : MF := r_law_things 80 .law_things
def m_law_simple : MF := r_law_things 80 .law_simple
def m_law_right : MF := r_law_things 80 .law_right
def m_law_test : MF := r_law_things 80 .law_test
def m_law_statement : MF := r_law_things 80 .law_statement
def m_law_block : MF := r_law_things 80 .law_block
def b_Program___init__ : MS := mSeq (mAsg (mCall m_bad_part 2 [] (mConsA (mVar 1) (mConsA (mVar 2) (mNilA)))) (bN 3)) (mSeq (mIf (mB (m1 notND (mVar 3))) (mRaise "BadProgram" "part" (mVar 3)) (mSkip)) (mSeq (mFst fok_held "held" (mVar 0) (mCall m_copied_classes 1 [] (mConsA (mVar 1) (mNilA)))) (mFst fok_body "body" (mVar 0) (mVar 2))))
def m_Program___init__ : MF := mFn 3 4 b_Program___init__
def b_Program_classes : MS := mRet (mCall m_copied_classes 1 [] (mConsA (mFld fok_held "held" (mVar 0)) (mNilA)))
def m_Program_classes : MF := mFn 1 1 b_Program_classes
def b_law : MS := mSeq (mAsg (mCall m_law_start 1 [] (mConsA (mVar 0) (mNilA))) (bN 1)) (mSeq (mAsg (mCall m_law_tools 1 [] (mConsA (mVar 1) (mNilA))) (bN 2)) (mSeq (mAsg (mCall m_law_block 3 [] (mConsA (mVar 1) (mConsA (mVar 2) (mConsA (mC (.int 1)) (mNilA))))) (bN 3)) (mSeq (mAsg (mDisp [(mC (.str "top"), mTup (mConsA (mC .non) (mConsA (mC (.str "open")) (mConsA (mDisp [(mC (.str "h"), mTup (mConsA (mC (.str "a")) (mNilA)))]) (mConsA (mDict0) (mNilA)))))), (mC (.str "box"), mTup (mConsA (mC (.str "top")) (mConsA (mC (.str "closed")) (mConsA (mDisp [(mC (.str "f"), mTup (mConsA (mC (.str "a")) (mConsA (mC (.str "b")) (mNilA)))), (mC (.str "g"), mTup (mConsA (mC (.str "c")) (mNilA)))]) (mConsA (mDict0) (mNilA))))))]) (bN 4)) (mSeq (mAsg (mVar 3) (bN 5)) (mSeq (mAsg (mC (.str "body")) (bN 6)) (mSeq (mIf (mB (m2 ixD (mVar 2) (mC (.str "method")))) (mSeq (mStore setD (m2 ixD (m2 ixD (mVar 4) (mC (.str "box"))) (mC (.int 3))) (mC (.str "go")) (mTup (mConsA (mTup (mConsA (mC (.str "x")) (mNilA))) (mConsA (mVar 3) (mNilA))))) (mSeq (mAsg (mTup (mNilA)) (bN 5)) (mAsg (mC (.str "box.go")) (bN 6)))) (mSkip)) (mSeq (mAsg (mC .non) (bN 7)) (mSeq (mAsg (mC .non) (bN 8)) (mSeq (mTryAs ctch_BadProgram 9 (mAsg (mMake "Program" m_Program___init__ 3 [] (mConsA (mVar 4) (mConsA (mVar 5) (mNilA)))) (bN 7)) (fun c => mAsg (mXf "BadProgram" "part" c) (bN 8))) (mSeq (mIf (mB (m2 ixD (mVar 2) (mC (.str "done")))) (mRet (mAndV (m1 isND (mVar 7)) (m2 eqD (mVar 8) (mVar 6)))) (mSkip)) (mRet (mAndV (m1 isND (mVar 8)) (mAndV (m2 eqD (mFld fok_body "body" (mVar 7)) (mVar 5)) (m2 eqD (mProp "Program" m_Program_classes (mVar 7)) (mVar 4)))))))))))))))
def m_law : MF := mFn 1 10 b_law
end Mkk02
namespace Mkk02
open PySem PySem.Spec PyProof.Rows L2 Mi
def top (i : Nat) : Stmt := PySem.Challenge.pw_standsfor_k02_expressions_anywhere.main.body.getD i (.Pass ⟨0, 0, 0, 0⟩)
structure Ad where
  a_is_name : Addr
  d_is_name : FuncData
  a_are_names : Addr
  d_are_names : FuncData
  a_head : Addr
  d_head : FuncData
  a_Place_has_field : Addr
  d_Place_has_field : FuncData
  a_Place_has_class : Addr
  d_Place_has_class : FuncData
  a_Place___init__ : Addr
  d_Place___init__ : FuncData
  a_Place_within_function : Addr
  d_Place_within_function : FuncData
  a_is_simple : Addr
  d_is_simple : FuncData
  a_are_things : Addr
  d_are_things : FuncData
  a_is_right : Addr
  d_is_right : FuncData
  a_is_test : Addr
  d_is_test : FuncData
  a_is_short : Addr
  d_is_short : FuncData
  a_is_statement : Addr
  d_is_statement : FuncData
  a_is_block : Addr
  d_is_block : FuncData
  a_are_fields : Addr
  d_are_fields : FuncData
  a_are_methods : Addr
  d_are_methods : FuncData
  a_is_outline : Addr
  d_is_outline : FuncData
  a_parents_end : Addr
  d_parents_end : FuncData
  a_are_outlines : Addr
  d_are_outlines : FuncData
  a_bad_method : Addr
  d_bad_method : FuncData
  a_copied : Addr
  d_copied : FuncData
  a_copied_classes : Addr
  d_copied_classes : FuncData
  a_bad_part : Addr
  d_bad_part : FuncData
  a_law_mix : Addr
  d_law_mix : FuncData
  a_law_start : Addr
  d_law_start : FuncData
  a_law_draw : Addr
  d_law_draw : FuncData
  a_law_tools : Addr
  d_law_tools : FuncData
  a_law_hit : Addr
  d_law_hit : FuncData
  a_law_part : Addr
  d_law_part : FuncData
  a_law_row : Addr
  d_law_row : FuncData
  a_law_name : Addr
  d_law_name : FuncData
  a_law_params : Addr
  d_law_params : FuncData
  a_law_things : Addr
  d_law_things : FuncData
  a_law_simple : Addr
  d_law_simple : FuncData
  a_law_right : Addr
  d_law_right : FuncData
  a_law_test : Addr
  d_law_test : FuncData
  a_law_statement : Addr
  d_law_statement : FuncData
  a_law_block : Addr
  d_law_block : FuncData
  a_Program___init__ : Addr
  d_Program___init__ : FuncData
  a_Program_classes : Addr
  d_Program_classes : FuncData
  a_law : Addr
  d_law : FuncData
  p_Program_classes : Addr
  C_Place : Addr
  C_StandError : Addr
  C_BadProgram : Addr
  C_Program : Addr
  i_BadProgram : Addr
  e_BadProgram : FuncData
def cl (A : Ad) : Str → Option Addr := fun n => if n = "BadProgram" then some A.C_BadProgram else if n = "Place" then some A.C_Place else if n = "Program" then some A.C_Program else none
structure Tx (P : Program) (K : PySem.W.Frag) (mg : Str → Option Value) (A : Ad) : Prop where
  f_is_name : Fun K "is_name" "is_name" (top 6) A.a_is_name A.d_is_name
  b_is_name : Binds K A.d_is_name ["thing"] []
  g_is_name : mg "is_name" = some (.ref A.a_is_name)
  f_are_names : Fun K "are_names" "are_names" (top 7) A.a_are_names A.d_are_names
  b_are_names : Binds K A.d_are_names ["thing", "most"] []
  g_are_names : mg "are_names" = some (.ref A.a_are_names)
  f_head : Fun K "head" "head" (top 8) A.a_head A.d_head
  b_head : Binds K A.d_head ["thing"] []
  g_head : mg "head" = some (.ref A.a_head)
  f_Place_has_field : Fun K "has_field" "Place.has_field" (inClass (top 9) 2) A.a_Place_has_field A.d_Place_has_field
  b_Place_has_field : Binds K A.d_Place_has_field ["self", "name"] []
  f_Place_has_class : Fun K "has_class" "Place.has_class" (inClass (top 9) 3) A.a_Place_has_class A.d_Place_has_class
  b_Place_has_class : Binds K A.d_Place_has_class ["self", "name"] []
  f_Place___init__ : Fun K "__init__" "Place.__init__" (inClass (top 9) 0) A.a_Place___init__ A.d_Place___init__
  b_Place___init__ : Binds K A.d_Place___init__ ["self", "fields", "has_parent", "classes", "may_return"] []
  f_Place_within_function : Fun K "within_function" "Place.within_function" (inClass (top 9) 1) A.a_Place_within_function A.d_Place_within_function
  b_Place_within_function : Binds K A.d_Place_within_function ["self"] []
  f_is_simple : Fun K "is_simple" "is_simple" (top 10) A.a_is_simple A.d_is_simple
  b_is_simple : Binds K A.d_is_simple ["thing", "place", "depth"] []
  g_is_simple : mg "is_simple" = some (.ref A.a_is_simple)
  f_are_things : Fun K "are_things" "are_things" (top 11) A.a_are_things A.d_are_things
  b_are_things : Binds K A.d_are_things ["thing", "place", "depth"] []
  g_are_things : mg "are_things" = some (.ref A.a_are_things)
  f_is_right : Fun K "is_right" "is_right" (top 12) A.a_is_right A.d_is_right
  b_is_right : Binds K A.d_is_right ["thing", "place", "depth"] []
  g_is_right : mg "is_right" = some (.ref A.a_is_right)
  f_is_test : FunD K "is_test" "is_test" (defArgs (top 13)) (defBody (top 13)) (defScope (top 13)) [(L2.V.int 3)] [] A.a_is_test A.d_is_test
  b_is_test_3 : ∃ us, Vals [(L2.V.int 3)] us ∧ Binds K A.d_is_test ["thing", "place", "depth", "levels"] us
  b_is_test_4 : ∃ us, Vals [] us ∧ Binds K A.d_is_test ["thing", "place", "depth", "levels"] us
  g_is_test : mg "is_test" = some (.ref A.a_is_test)
  f_is_short : Fun K "is_short" "is_short" (top 14) A.a_is_short A.d_is_short
  b_is_short : Binds K A.d_is_short ["thing", "place", "depth"] []
  g_is_short : mg "is_short" = some (.ref A.a_is_short)
  f_is_statement : Fun K "is_statement" "is_statement" (top 15) A.a_is_statement A.d_is_statement
  b_is_statement : Binds K A.d_is_statement ["thing", "place", "depth"] []
  g_is_statement : mg "is_statement" = some (.ref A.a_is_statement)
  f_is_block : Fun K "is_block" "is_block" (top 16) A.a_is_block A.d_is_block
  b_is_block : Binds K A.d_is_block ["thing", "place", "depth"] []
  g_is_block : mg "is_block" = some (.ref A.a_is_block)
  f_are_fields : Fun K "are_fields" "are_fields" (top 22) A.a_are_fields A.d_are_fields
  b_are_fields : Binds K A.d_are_fields ["thing"] []
  g_are_fields : mg "are_fields" = some (.ref A.a_are_fields)
  f_are_methods : Fun K "are_methods" "are_methods" (top 23) A.a_are_methods A.d_are_methods
  b_are_methods : Binds K A.d_are_methods ["thing"] []
  g_are_methods : mg "are_methods" = some (.ref A.a_are_methods)
  f_is_outline : Fun K "is_outline" "is_outline" (top 24) A.a_is_outline A.d_is_outline
  b_is_outline : Binds K A.d_is_outline ["thing"] []
  g_is_outline : mg "is_outline" = some (.ref A.a_is_outline)
  f_parents_end : Fun K "parents_end" "parents_end" (top 25) A.a_parents_end A.d_parents_end
  b_parents_end : Binds K A.d_parents_end ["classes", "name"] []
  g_parents_end : mg "parents_end" = some (.ref A.a_parents_end)
  f_are_outlines : Fun K "are_outlines" "are_outlines" (top 26) A.a_are_outlines A.d_are_outlines
  b_are_outlines : Binds K A.d_are_outlines ["thing"] []
  g_are_outlines : mg "are_outlines" = some (.ref A.a_are_outlines)
  f_bad_method : Fun K "bad_method" "bad_method" (top 27) A.a_bad_method A.d_bad_method
  b_bad_method : Binds K A.d_bad_method ["cls", "classes"] []
  g_bad_method : mg "bad_method" = some (.ref A.a_bad_method)
  f_copied : Fun K "copied" "copied" (top 28) A.a_copied A.d_copied
  b_copied : Binds K A.d_copied ["cls"] []
  g_copied : mg "copied" = some (.ref A.a_copied)
  f_copied_classes : Fun K "copied_classes" "copied_classes" (top 29) A.a_copied_classes A.d_copied_classes
  b_copied_classes : Binds K A.d_copied_classes ["classes"] []
  g_copied_classes : mg "copied_classes" = some (.ref A.a_copied_classes)
  f_bad_part : Fun K "bad_part" "bad_part" (top 34) A.a_bad_part A.d_bad_part
  b_bad_part : Binds K A.d_bad_part ["classes", "body"] []
  g_bad_part : mg "bad_part" = some (.ref A.a_bad_part)
  f_law_mix : Fun K "_law_mix" "_law_mix" (top 37) A.a_law_mix A.d_law_mix
  b_law_mix : Binds K A.d_law_mix ["_law_seed", "_law_cell"] []
  g_law_mix : mg "_law_mix" = some (.ref A.a_law_mix)
  f_law_start : Fun K "_law_start" "_law_start" (top 38) A.a_law_start A.d_law_start
  b_law_start : Binds K A.d_law_start ["_law_script"] []
  g_law_start : mg "_law_start" = some (.ref A.a_law_start)
  f_law_draw : Fun K "_law_draw" "_law_draw" (top 39) A.a_law_draw A.d_law_draw
  b_law_draw : Binds K A.d_law_draw ["_law_state", "_law_many"] []
  g_law_draw : mg "_law_draw" = some (.ref A.a_law_draw)
  f_law_tools : Fun K "_law_tools" "_law_tools" (top 40) A.a_law_tools A.d_law_tools
  b_law_tools : Binds K A.d_law_tools ["_law_state"] []
  g_law_tools : mg "_law_tools" = some (.ref A.a_law_tools)
  f_law_hit : Fun K "_law_hit" "_law_hit" (top 41) A.a_law_hit A.d_law_hit
  b_law_hit : Binds K A.d_law_hit ["_law_tools_here"] []
  g_law_hit : mg "_law_hit" = some (.ref A.a_law_hit)
  f_law_part : Fun K "_law_part" "_law_part" (top 42) A.a_law_part A.d_law_part
  b_law_part : Binds K A.d_law_part ["_law_tools_here", "_law_part_here"] []
  g_law_part : mg "_law_part" = some (.ref A.a_law_part)
  f_law_row : Fun K "_law_row" "_law_row" (top 43) A.a_law_row A.d_law_row
  b_law_row : Binds K A.d_law_row ["_law_tools_here", "_law_row_here", "_law_many", "_law_odd"] []
  g_law_row : mg "_law_row" = some (.ref A.a_law_row)
  f_law_name : Fun K "_law_name" "_law_name" (top 44) A.a_law_name A.d_law_name
  b_law_name : Binds K A.d_law_name ["_law_state"] []
  g_law_name : mg "_law_name" = some (.ref A.a_law_name)
  f_law_params : Fun K "_law_params" "_law_params" (top 45) A.a_law_params A.d_law_params
  b_law_params : Binds K A.d_law_params ["_law_state", "_law_tools_here"] []
  g_law_params : mg "_law_params" = some (.ref A.a_law_params)
  f_law_things : Fun K "_law_things" "_law_things" (top 46) A.a_law_things A.d_law_things
  b_law_things : Binds K A.d_law_things ["_law_state", "_law_tools_here", "_law_depth"] []
  g_law_things : mg "_law_things" = some (.ref A.a_law_things)
  f_law_simple : Fun K "_law_simple" "_law_simple" (top 47) A.a_law_simple A.d_law_simple
  b_law_simple : Binds K A.d_law_simple ["_law_state", "_law_tools_here", "_law_depth"] []
  g_law_simple : mg "_law_simple" = some (.ref A.a_law_simple)
  f_law_right : Fun K "_law_right" "_law_right" (top 48) A.a_law_right A.d_law_right
  b_law_right : Binds K A.d_law_right ["_law_state", "_law_tools_here", "_law_depth"] []
  g_law_right : mg "_law_right" = some (.ref A.a_law_right)
  f_law_test : Fun K "_law_test" "_law_test" (top 49) A.a_law_test A.d_law_test
  b_law_test : Binds K A.d_law_test ["_law_state", "_law_tools_here", "_law_depth", "_law_levels"] []
  g_law_test : mg "_law_test" = some (.ref A.a_law_test)
  f_law_statement : Fun K "_law_statement" "_law_statement" (top 50) A.a_law_statement A.d_law_statement
  b_law_statement : Binds K A.d_law_statement ["_law_state", "_law_tools_here", "_law_depth"] []
  g_law_statement : mg "_law_statement" = some (.ref A.a_law_statement)
  f_law_block : Fun K "_law_block" "_law_block" (top 51) A.a_law_block A.d_law_block
  b_law_block : Binds K A.d_law_block ["_law_state", "_law_tools_here", "_law_depth"] []
  g_law_block : mg "_law_block" = some (.ref A.a_law_block)
  f_Program___init__ : Fun K "__init__" "Program.__init__" (inClass (top 35) 0) A.a_Program___init__ A.d_Program___init__
  b_Program___init__ : Binds K A.d_Program___init__ ["self", "classes", "body"] []
  f_Program_classes : Fun K "classes" "Program.classes" (inClass (top 35) 1) A.a_Program_classes A.d_Program_classes
  b_Program_classes : Binds K A.d_Program_classes ["self"] []
  f_law : Fun K "law" "law" (top 52) A.a_law A.d_law
  b_law : Binds K A.d_law ["_law_script"] []
  g_law : mg "law" = some (.ref A.a_law)
  cls_Place : Cls K A.C_Place
  na_Place_fields : NoAttr K A.C_Place "fields"
  na_Place_has_parent : NoAttr K A.C_Place "has_parent"
  na_Place_known : NoAttr K A.C_Place "known"
  na_Place_may_return : NoAttr K A.C_Place "may_return"
  cls_Program : Cls K A.C_Program
  na_Program_body : NoAttr K A.C_Program "body"
  na_Program_held : NoAttr K A.C_Program "held"
  mk_Place : Mk K A.C_Place A.a_Place___init__
  mk_Program : Mk K A.C_Program A.a_Program___init__
  me_Place_has_class : Meth K A.C_Place "has_class" A.a_Place_has_class
  me_Place_has_field : Meth K A.C_Place "has_field" A.a_Place_has_field
  me_Place_within_function : Meth K A.C_Place "within_function" A.a_Place_within_function
  pr_Program_classes : PropOf K A.C_Program "classes" A.p_Program_classes A.a_Program_classes
  n_dict : mg "dict" = none
  n_enumerate : mg "enumerate" = none
  n_int : mg "int" = none
  n_isinstance : mg "isinstance" = none
  n_len : mg "len" = none
  n_list : mg "list" = none
  n_range : mg "range" = none
  n_sorted : mg "sorted" = none
  n_str : mg "str" = none
  n_tuple : mg "tuple" = none
  c_LETTERS : ∃ u, mg "LETTERS" = some u ∧ RelV (.str "abcdefghijklmnopqrstuvwxyz") u
  c_MOST_STATEMENTS : ∃ u, mg "MOST_STATEMENTS" = some u ∧ RelV (.int 12) u
  c_MOST_DEEP : ∃ u, mg "MOST_DEEP" = some u ∧ RelV (.int 8) u
  c_MOST_PARAMS : ∃ u, mg "MOST_PARAMS" = some u ∧ RelV (.int 3) u
  c_MOST_THINGS : ∃ u, mg "MOST_THINGS" = some u ∧ RelV (.int 3) u
  c_MOST_CLASSES : ∃ u, mg "MOST_CLASSES" = some u ∧ RelV (.int 8) u
  c_MOST_FIELDS : ∃ u, mg "MOST_FIELDS" = some u ∧ RelV (.int 3) u
  c_MOST_WORDS : ∃ u, mg "MOST_WORDS" = some u ∧ RelV (.int 4) u
  c_MOST_METHODS : ∃ u, mg "MOST_METHODS" = some u ∧ RelV (.int 5) u
  g_Place : mg "Place" = some (.ref A.C_Place)
  g_StandError : mg "StandError" = some (.ref A.C_StandError)
  g_BadProgram : mg "BadProgram" = some (.ref A.C_BadProgram)
  g_Program : mg "Program" = some (.ref A.C_Program)
  su_BadProgram : SupTxt P K mg (inClass (top 32) 0) "BadProgram.__init__" A.i_BadProgram A.e_BadProgram A.C_BadProgram
  ox_BadProgram : OexC K A.C_BadProgram
  in_BadProgram : PySem.W.findIn K (.ref A.C_BadProgram) "__init__" = some (some (.ref A.i_BadProgram))
  ty_BadProgram : PySem.W.typeIn K (.ref A.i_BadProgram) = some (.type "function")
  be_BadProgram : Binds K A.e_BadProgram ["self", "part"] []
  no_BadProgram : PySem.W.findIn K (.ref A.C_BadProgram) "part" = some none
  xf_BadProgram : XfC K A.C_BadProgram
  ek_BadProgram : ExcK K A.C_BadProgram
  ct_BadProgram_BadProgram : PySem.W.exmOne K (.ref A.C_BadProgram) (.ref A.C_BadProgram) = some true
section
variable {P : Program} {w : World} {K : PySem.W.Frag} {mg : Str → Option Value} {base : Heap} {A : Ad}
theorem ctch_BadProgram_ok (T : Tx P K mg A) : ∀ (nm : Str) (Ca : Addr) (b : Bool), cl A nm = some Ca → ctch_BadProgram nm = some b → PySem.W.exmOne K (.ref Ca) (.ref A.C_BadProgram) = some b := by
  intro nm Ca b h1 h2
  unfold cl at h1
  unfold ctch_BadProgram at h2
  by_cases hBadProgram : nm = "BadProgram"
  · rw [if_pos hBadProgram] at h1 h2
    cases h1
    cases h2
    exact T.ct_BadProgram_BadProgram
  rw [if_neg hBadProgram] at h1 h2
  cases h2
theorem ss_BadProgram : SupSt (inClass (top 32) 0) "part" "part" "bad program" := ⟨⟨_, _, _, _, _, _, _, _, _, _, _, rfl, fun _ => ⟨_, rfl⟩⟩, NdefX.nscope_by (by decide +kernel), rfl, rfl, by decide⟩
theorem err_BadProgram (T : Tx P K mg A) : ErrC P w K mg base (cl A) "BadProgram" "part" := ⟨A.C_BadProgram, A.i_BadProgram, A.e_BadProgram, "part", T.g_BadProgram, by first | rfl | decide | simp [cl], T.ox_BadProgram, T.in_BadProgram, T.ty_BadProgram, sup_ok T.su_BadProgram ss_BadProgram T.ox_BadProgram T.no_BadProgram (by decide) (by decide), T.be_BadProgram⟩
theorem fok_body_ok (T : Tx P K mg A) : FOk K (cl A) fok_body "body" := by
  intro nm Ca h1 h2
  unfold cl at h1
  unfold fok_body at h2
  by_cases hBadProgram : nm = "BadProgram"
  · first
    | exact absurd h2 (by decide)
    | (rw [hBadProgram] at h2; exact absurd h2 (by decide))
  rw [if_neg hBadProgram] at h1
  by_cases hPlace : nm = "Place"
  · first
    | exact absurd h2 (by decide)
    | (rw [hPlace] at h2; exact absurd h2 (by decide))
  rw [if_neg hPlace] at h1
  by_cases hProgram : nm = "Program"
  · rw [if_pos hProgram] at h1
    cases h1
    exact ⟨T.cls_Program, T.na_Program_body⟩
  rw [if_neg hProgram] at h1 h2
  cases h1
theorem fok_fields_ok (T : Tx P K mg A) : FOk K (cl A) fok_fields "fields" := by
  intro nm Ca h1 h2
  unfold cl at h1
  unfold fok_fields at h2
  by_cases hBadProgram : nm = "BadProgram"
  · first
    | exact absurd h2 (by decide)
    | (rw [hBadProgram] at h2; exact absurd h2 (by decide))
  rw [if_neg hBadProgram] at h1
  by_cases hPlace : nm = "Place"
  · rw [if_pos hPlace] at h1
    cases h1
    exact ⟨T.cls_Place, T.na_Place_fields⟩
  rw [if_neg hPlace] at h1 h2
  by_cases hProgram : nm = "Program"
  · first
    | exact absurd h2 (by decide)
    | (rw [hProgram] at h2; exact absurd h2 (by decide))
  rw [if_neg hProgram] at h1
  cases h1
theorem fok_has_parent_ok (T : Tx P K mg A) : FOk K (cl A) fok_has_parent "has_parent" := by
  intro nm Ca h1 h2
  unfold cl at h1
  unfold fok_has_parent at h2
  by_cases hBadProgram : nm = "BadProgram"
  · first
    | exact absurd h2 (by decide)
    | (rw [hBadProgram] at h2; exact absurd h2 (by decide))
  rw [if_neg hBadProgram] at h1
  by_cases hPlace : nm = "Place"
  · rw [if_pos hPlace] at h1
    cases h1
    exact ⟨T.cls_Place, T.na_Place_has_parent⟩
  rw [if_neg hPlace] at h1 h2
  by_cases hProgram : nm = "Program"
  · first
    | exact absurd h2 (by decide)
    | (rw [hProgram] at h2; exact absurd h2 (by decide))
  rw [if_neg hProgram] at h1
  cases h1
theorem fok_held_ok (T : Tx P K mg A) : FOk K (cl A) fok_held "held" := by
  intro nm Ca h1 h2
  unfold cl at h1
  unfold fok_held at h2
  by_cases hBadProgram : nm = "BadProgram"
  · first
    | exact absurd h2 (by decide)
    | (rw [hBadProgram] at h2; exact absurd h2 (by decide))
  rw [if_neg hBadProgram] at h1
  by_cases hPlace : nm = "Place"
  · first
    | exact absurd h2 (by decide)
    | (rw [hPlace] at h2; exact absurd h2 (by decide))
  rw [if_neg hPlace] at h1
  by_cases hProgram : nm = "Program"
  · rw [if_pos hProgram] at h1
    cases h1
    exact ⟨T.cls_Program, T.na_Program_held⟩
  rw [if_neg hProgram] at h1 h2
  cases h1
theorem fok_known_ok (T : Tx P K mg A) : FOk K (cl A) fok_known "known" := by
  intro nm Ca h1 h2
  unfold cl at h1
  unfold fok_known at h2
  by_cases hBadProgram : nm = "BadProgram"
  · first
    | exact absurd h2 (by decide)
    | (rw [hBadProgram] at h2; exact absurd h2 (by decide))
  rw [if_neg hBadProgram] at h1
  by_cases hPlace : nm = "Place"
  · rw [if_pos hPlace] at h1
    cases h1
    exact ⟨T.cls_Place, T.na_Place_known⟩
  rw [if_neg hPlace] at h1 h2
  by_cases hProgram : nm = "Program"
  · first
    | exact absurd h2 (by decide)
    | (rw [hProgram] at h2; exact absurd h2 (by decide))
  rw [if_neg hProgram] at h1
  cases h1
theorem fok_may_return_ok (T : Tx P K mg A) : FOk K (cl A) fok_may_return "may_return" := by
  intro nm Ca h1 h2
  unfold cl at h1
  unfold fok_may_return at h2
  by_cases hBadProgram : nm = "BadProgram"
  · first
    | exact absurd h2 (by decide)
    | (rw [hBadProgram] at h2; exact absurd h2 (by decide))
  rw [if_neg hBadProgram] at h1
  by_cases hPlace : nm = "Place"
  · rw [if_pos hPlace] at h1
    cases h1
    exact ⟨T.cls_Place, T.na_Place_may_return⟩
  rw [if_neg hPlace] at h1 h2
  by_cases hProgram : nm = "Program"
  · first
    | exact absurd h2 (by decide)
    | (rw [hProgram] at h2; exact absurd h2 (by decide))
  rw [if_neg hProgram] at h1
  cases h1
theorem sc_is_name : FnScope ["thing", "letter"] ["thing"] (defScope (top 6)) := ⟨rfl, rfl, rfl, by decide +kernel, rfl, by decide +kernel, by decide +kernel⟩
theorem w_is_name (T : Tx P K mg A) : FnOk P w K mg base (L2.CX P w) 1 A.a_is_name A.d_is_name ["thing"] (spM K (cl A) 1 m_is_name) := by
  refine fn_ok T.f_is_name sc_is_name rfl rfl fun cdv Ar outer sh H E C => ?_
  unfold b_is_name
  exact css_cons (cs_if (PW.pt (cw_or (ct_not (ct_val (ce_isi .str (by decide) rfl T.n_isinstance C.hK rfl T.n_str (by first | boot_by_name | rfl | kernel_rfl) (ce_var 0)))) (cw_or1 (ct_not (ct_chain op_le op_le om_le om_le (ce_int) (ce_callB oc_len cm_len rfl T.n_len (by first | boot_by_name | rfl | kernel_rfl) (ca_cons (ce_var 0) (ca_nil))) (ce_int)))))) (css_one (cs_ret (ce_bl))) (css_nil)) (css_cons (cs_for C.own C.calm (bm_name nofx0) (ci_any C.hK (ce_var 0)) (pg_name (i := 1) C.nd rfl (by first | exact Or.inl rfl | exact Or.inr rfl)) (css_one (cs_if (ct_cmp (oo_notIn C.hu) om_notIn (ce_var 1) (ce_gstr T.c_LETTERS) (by rfl)) (css_one (cs_ret (ce_bl))) (css_nil)))) (css_one (cs_ret (ce_bl))))
theorem sc_are_names : FnScope ["thing", "most", "at", "name"] ["thing", "most"] (defScope (top 7)) := ⟨rfl, rfl, rfl, by decide +kernel, rfl, by decide +kernel, by decide +kernel⟩
theorem w_are_names (T : Tx P K mg A) : FnOk P w K mg base (L2.CX P w) 2 A.a_are_names A.d_are_names ["thing", "most"] (spM K (cl A) 2 m_are_names) := by
  refine fn_ok T.f_are_names sc_are_names rfl rfl fun cdv Ar outer sh H E C => ?_
  unfold b_are_names
  exact css_cons (cs_if (PW.pt (cw_or (ct_not (ct_val (ce_isi .tup (by decide) rfl T.n_isinstance C.hK rfl T.n_tuple (by first | boot_by_name | rfl | kernel_rfl) (ce_var 0)))) (cw_or1 (ct_cmp op_gt om_gt (ce_callB oc_len cm_len rfl T.n_len (by first | boot_by_name | rfl | kernel_rfl) (ca_cons (ce_var 0) (ca_nil))) (ce_var 1) (by rfl))))) (css_one (cs_ret (ce_bl))) (css_nil)) (css_cons (cs_for C.own C.calm (bm_tup (is := [2, 3]) rfl nofxs) (ci_enumT C.hK rfl T.n_enumerate (ca_cons (ce_var 0) (ca_nil))) (pg_tup C.calm (pgs_cons (pg_name (i := 2) C.nd rfl (by first | exact Or.inl rfl | exact Or.inr rfl)) (pgs_cons (pg_name (i := 3) C.nd rfl (by first | exact Or.inl rfl | exact Or.inr rfl)) pgs_nil))) (css_one (cs_if (PW.pt (cw_or (ct_not (ct_val (ce_call (w_is_name T) C (by first | decide | omega) rfl T.g_is_name T.f_is_name.kp T.b_is_name .nil dfl0 (ca_cons (ce_var 3) (ca_nil))))) (cw_or1 (ct_cmp (oo_in C.hu) om_in (ce_var 3) (ce_slice C.hK (ce_var 0) (co_none) (co_some (ce_var 2))) (by rfl))))) (css_one (cs_ret (ce_bl))) (css_nil)))) (css_one (cs_ret (ce_bl))))
theorem sc_head : FnScope ["thing"] ["thing"] (defScope (top 8)) := ⟨rfl, rfl, rfl, by decide +kernel, rfl, by decide +kernel, by decide +kernel⟩
theorem w_head (T : Tx P K mg A) : FnOk P w K mg base (L2.CX P w) 1 A.a_head A.d_head ["thing"] (spM K (cl A) 1 m_head) := by
  refine fn_ok T.f_head sc_head rfl rfl fun cdv Ar outer sh H E C => ?_
  unfold b_head
  exact css_cons (cs_if (PW.pt (cw_and (ct_val (ce_isi .tup (by decide) rfl T.n_isinstance C.hK rfl T.n_tuple (by first | boot_by_name | rfl | kernel_rfl) (ce_var 0))) (cw_and (ct_cmp op_gt om_gt (ce_callB oc_len cm_len rfl T.n_len (by first | boot_by_name | rfl | kernel_rfl) (ca_cons (ce_var 0) (ca_nil))) (ce_int) (by rfl)) (cw_and1 (ct_val (ce_isi .str (by decide) rfl T.n_isinstance C.hK rfl T.n_str (by first | boot_by_name | rfl | kernel_rfl) (ce_ix C.hu C.hK (ce_var 0) (ce_int) (fun _ _ => rfl)))))))) (css_one (cs_ret (ce_ix C.hu C.hK (ce_var 0) (ce_int) (fun _ _ => rfl)))) (css_nil)) (css_one (cs_ret (ce_str)))
theorem sc_Place_has_field : FnScope ["self", "name"] ["self", "name"] (defScope (inClass (top 9) 2)) := ⟨rfl, rfl, rfl, by decide +kernel, rfl, by decide +kernel, by decide +kernel⟩
theorem w_Place_has_field (T : Tx P K mg A) : FnOk P w K mg base (L2.CX P w) 2 A.a_Place_has_field A.d_Place_has_field ["self", "name"] (spM K (cl A) 2 m_Place_has_field) := by
  refine fn_ok T.f_Place_has_field sc_Place_has_field rfl rfl fun cdv Ar outer sh H E C => ?_
  unfold b_Place_has_field
  exact css_one (cs_ret (ce_and (ce_notN (ce_fld C.hK (fok_fields_ok T) (ce_var 0))) (ce_and (ce_call (w_is_name T) C (by first | decide | omega) rfl T.g_is_name T.f_is_name.kp T.b_is_name .nil dfl0 (ca_cons (ce_var 1) (ca_nil))) (ce_one (ce_cmp (oo_in C.hu) om_in (ce_var 1) (ce_fld C.hK (fok_fields_ok T) (ce_var 0)) (by rfl))))))
theorem sc_Place_has_class : FnScope ["self", "name"] ["self", "name"] (defScope (inClass (top 9) 3)) := ⟨rfl, rfl, rfl, by decide +kernel, rfl, by decide +kernel, by decide +kernel⟩
theorem w_Place_has_class (T : Tx P K mg A) : FnOk P w K mg base (L2.CX P w) 2 A.a_Place_has_class A.d_Place_has_class ["self", "name"] (spM K (cl A) 2 m_Place_has_class) := by
  refine fn_ok T.f_Place_has_class sc_Place_has_class rfl rfl fun cdv Ar outer sh H E C => ?_
  unfold b_Place_has_class
  exact css_one (cs_ret (ce_and (ce_call (w_is_name T) C (by first | decide | omega) rfl T.g_is_name T.f_is_name.kp T.b_is_name .nil dfl0 (ca_cons (ce_var 1) (ca_nil))) (ce_one (ce_or (ce_isN (ce_fld C.hK (fok_known_ok T) (ce_var 0))) (ce_one (ce_cmp (oo_in C.hu) om_in (ce_var 1) (ce_fld C.hK (fok_known_ok T) (ce_var 0)) (by rfl)))))))
theorem sc_Place___init__ : FnScope ["self", "fields", "has_parent", "classes", "may_return"] ["self", "fields", "has_parent", "classes", "may_return"] (defScope (inClass (top 9) 0)) := ⟨rfl, rfl, rfl, by decide +kernel, rfl, by decide +kernel, by decide +kernel⟩
theorem w_Place___init__ (T : Tx P K mg A) : FnOk P w K mg base (L2.CX P w) 1 A.a_Place___init__ A.d_Place___init__ ["self", "fields", "has_parent", "classes", "may_return"] (spM K (cl A) 5 m_Place___init__) := by
  refine fn_ok T.f_Place___init__ sc_Place___init__ rfl rfl fun cdv Ar outer sh H E C => ?_
  unfold b_Place___init__
  exact css_cons (cs_fld C.hK (fok_fields_ok T) (ce_var 0) (ce_var 1)) (css_cons (cs_fld C.hK (fok_has_parent_ok T) (ce_var 0) (ce_var 2)) (css_cons (cs_fld C.hK (fok_known_ok T) (ce_var 0) (ce_var 3)) (css_one (cs_fld C.hK (fok_may_return_ok T) (ce_var 0) (ce_var 4)))))
theorem sc_Place_within_function : FnScope ["self"] ["self"] (defScope (inClass (top 9) 1)) := ⟨rfl, rfl, rfl, by decide +kernel, rfl, by decide +kernel, by decide +kernel⟩
theorem w_Place_within_function (T : Tx P K mg A) : FnOk P w K mg base (L2.CX P w) 3 A.a_Place_within_function A.d_Place_within_function ["self"] (spM K (cl A) 1 m_Place_within_function) := by
  refine fn_ok T.f_Place_within_function sc_Place_within_function rfl rfl fun cdv Ar outer sh H E C => ?_
  unfold b_Place_within_function
  exact css_one (cs_ret (ce_make T.mk_Place (w_Place___init__ T) C (by first | decide | omega) rfl rfl T.g_Place T.b_Place___init__ .nil dfl0 (ca_cons (ce_fld C.hK (fok_fields_ok T) (ce_var 0)) (ca_cons (ce_fld C.hK (fok_has_parent_ok T) (ce_var 0)) (ca_cons (ce_fld C.hK (fok_known_ok T) (ce_var 0)) (ca_cons (ce_bl) (ca_nil)))))))
theorem sc_is_simple : FnScope ["thing", "place", "depth", "kind"] ["thing", "place", "depth"] (defScope (top 10)) := ⟨rfl, rfl, rfl, by decide +kernel, rfl, by decide +kernel, by decide +kernel⟩
theorem sc_are_things : FnScope ["thing", "place", "depth", "item"] ["thing", "place", "depth"] (defScope (top 11)) := ⟨rfl, rfl, rfl, by decide +kernel, rfl, by decide +kernel, by decide +kernel⟩
theorem sc_is_right : FnScope ["thing", "place", "depth", "kind"] ["thing", "place", "depth"] (defScope (top 12)) := ⟨rfl, rfl, rfl, by decide +kernel, rfl, by decide +kernel, by decide +kernel⟩
theorem sc_is_test : FnScope ["thing", "place", "depth", "levels", "kind"] ["thing", "place", "depth", "levels"] (defScope (top 13)) := ⟨rfl, rfl, rfl, by decide +kernel, rfl, by decide +kernel, by decide +kernel⟩
theorem sc_is_short : FnScope ["thing", "place", "depth", "kind"] ["thing", "place", "depth"] (defScope (top 14)) := ⟨rfl, rfl, rfl, by decide +kernel, rfl, by decide +kernel, by decide +kernel⟩
theorem sc_is_statement : FnScope ["thing", "place", "depth", "kind"] ["thing", "place", "depth"] (defScope (top 15)) := ⟨rfl, rfl, rfl, by decide +kernel, rfl, by decide +kernel, by decide +kernel⟩
theorem sc_is_block : FnScope ["thing", "place", "depth", "statement"] ["thing", "place", "depth"] (defScope (top 16)) := ⟨rfl, rfl, rfl, by decide +kernel, rfl, by decide +kernel, by decide +kernel⟩
theorem wr_is_simple (T : Tx P K mg A) (n : Nat) (ih : FnOk P w K mg base (L2.CX P w) (3 + n) A.a_is_simple A.d_is_simple ["thing", "place", "depth"] (spM K (cl A) 3 (r_is_simple n .is_simple)) ∧ FnOk P w K mg base (L2.CX P w) (3 + n) A.a_are_things A.d_are_things ["thing", "place", "depth"] (spM K (cl A) 3 (r_is_simple n .are_things)) ∧ FnOk P w K mg base (L2.CX P w) (3 + n) A.a_is_right A.d_is_right ["thing", "place", "depth"] (spM K (cl A) 3 (r_is_simple n .is_right)) ∧ FnOk P w K mg base (L2.CX P w) (3 + n) A.a_is_test A.d_is_test ["thing", "place", "depth", "levels"] (spM K (cl A) 4 (r_is_simple n .is_test)) ∧ FnOk P w K mg base (L2.CX P w) (3 + n) A.a_is_short A.d_is_short ["thing", "place", "depth"] (spM K (cl A) 3 (r_is_simple n .is_short)) ∧ FnOk P w K mg base (L2.CX P w) (3 + n) A.a_is_statement A.d_is_statement ["thing", "place", "depth"] (spM K (cl A) 3 (r_is_simple n .is_statement)) ∧ FnOk P w K mg base (L2.CX P w) (3 + n) A.a_is_block A.d_is_block ["thing", "place", "depth"] (spM K (cl A) 3 (r_is_simple n .is_block))) : FnOk P w K mg base (L2.CX P w) (3 + (n + 1)) A.a_is_simple A.d_is_simple ["thing", "place", "depth"] (spM K (cl A) 3 (r_is_simple (n + 1) .is_simple)) := by
  show FnOk P w K mg base (L2.CX P w) (3 + n + 1) A.a_is_simple A.d_is_simple ["thing", "place", "depth"] (spM K (cl A) 3 (mFn 3 4 (b_is_simple (r_is_simple n))))
  refine fn_ok T.f_is_simple sc_is_simple rfl rfl fun cdv Ar outer sh H E C => ?_
  unfold b_is_simple
  exact css_cons (cs_set 3 C.nd nofx0 (ce_call (w_head T) C (by first | decide | omega) rfl T.g_head T.f_head.kp T.b_head .nil dfl0 (ca_cons (ce_var 0) (ca_nil)))) (css_cons (cs_if (ct_cmp (oo_eq C.hu) om_eq (ce_var 3) (ce_str) (by rfl)) (css_one (cs_ret (ce_cmp (oo_eq C.hu) om_eq (ce_callB oc_len cm_len rfl T.n_len (by first | boot_by_name | rfl | kernel_rfl) (ca_cons (ce_var 0) (ca_nil))) (ce_int) (by rfl)))) (css_nil)) (css_cons (cs_if (ct_cmp (oo_eq C.hu) om_eq (ce_var 3) (ce_str) (by rfl)) (css_one (cs_ret (ce_and (ce_cmp (oo_eq C.hu) om_eq (ce_callB oc_len cm_len rfl T.n_len (by first | boot_by_name | rfl | kernel_rfl) (ca_cons (ce_var 0) (ca_nil))) (ce_int) (by rfl)) (ce_one (ce_notN (ce_fld C.hK (fok_fields_ok T) (ce_var 1))))))) (css_nil)) (css_cons (cs_if (ct_cmp (oo_eq C.hu) om_eq (ce_var 3) (ce_str) (by rfl)) (css_cons (cs_if (PW.pt (cw_or (ct_cmp (oo_ne C.hu) om_ne (ce_callB oc_len cm_len rfl T.n_len (by first | boot_by_name | rfl | kernel_rfl) (ca_cons (ce_var 0) (ca_nil))) (ce_int) (by rfl)) (cw_or1 (ct_not (ct_val (ce_call (w_are_names T) C (by first | decide | omega) rfl T.g_are_names T.f_are_names.kp T.b_are_names .nil dfl0 (ca_cons (ce_ix C.hu C.hK (ce_var 0) (ce_int) (fun _ _ => rfl)) (ca_cons (ce_gint T.c_MOST_PARAMS) (ca_nil))))))))) (css_one (cs_ret (ce_bl))) (css_nil)) (css_one (cs_ret (ce_call (ih.2.2.2.2.2.2) C (by first | decide | omega) rfl T.g_is_block T.f_is_block.kp T.b_is_block .nil dfl0 (ca_cons (ce_ix C.hu C.hK (ce_var 0) (ce_int) (fun _ _ => rfl)) (ca_cons (ce_methP0 (w_Place_within_function T) C (by first | decide | omega) rfl T.cls_Place T.me_Place_within_function T.b_Place_within_function .nil dfl0 (ce_var 1)) (ca_cons (ce_op oo_add om_add (ce_var 2) (ce_int)) (ca_nil)))))))) (css_nil)) (css_cons (cs_if (PW.pt (cw_or (ct_cmp (oo_eq C.hu) om_eq (ce_var 3) (ce_str) (by rfl)) (cw_or1 (ct_cmp (oo_ne C.hu) om_ne (ce_callB oc_len cm_len rfl T.n_len (by first | boot_by_name | rfl | kernel_rfl) (ca_cons (ce_var 0) (ca_nil))) (ce_int) (by rfl))))) (css_one (cs_ret (ce_bl))) (css_nil)) (css_cons (cs_if (ct_cmp (oo_eq C.hu) om_eq (ce_var 3) (ce_str) (by rfl)) (css_one (cs_ret (ce_methP (w_Place_has_field T) C (by first | decide | omega) rfl T.cls_Place T.me_Place_has_field T.b_Place_has_field .nil dfl0 (ce_var 1) (ca_cons (ce_ix C.hu C.hK (ce_var 0) (ce_int) (fun _ _ => rfl)) (ca_nil))))) (css_nil)) (css_cons (cs_if (ct_cmp (oo_eq C.hu) om_eq (ce_var 3) (ce_str) (by rfl)) (css_one (cs_ret (ce_methP (w_Place_has_class T) C (by first | decide | omega) rfl T.cls_Place T.me_Place_has_class T.b_Place_has_class .nil dfl0 (ce_var 1) (ca_cons (ce_ix C.hu C.hK (ce_var 0) (ce_int) (fun _ _ => rfl)) (ca_nil))))) (css_nil)) (css_one (cs_ret (ce_and (ce_cmp (oo_in C.hu) om_in (ce_var 3) (ce_tup (ca_cons (ce_str) (ca_cons (ce_str) (ca_nil)))) (by rfl)) (ce_one (ce_call (w_is_name T) C (by first | decide | omega) rfl T.g_is_name T.f_is_name.kp T.b_is_name .nil dfl0 (ca_cons (ce_ix C.hu C.hK (ce_var 0) (ce_int) (fun _ _ => rfl)) (ca_nil)))))))))))))
theorem wr_are_things (T : Tx P K mg A) (n : Nat) (ih : FnOk P w K mg base (L2.CX P w) (3 + n) A.a_is_simple A.d_is_simple ["thing", "place", "depth"] (spM K (cl A) 3 (r_is_simple n .is_simple)) ∧ FnOk P w K mg base (L2.CX P w) (3 + n) A.a_are_things A.d_are_things ["thing", "place", "depth"] (spM K (cl A) 3 (r_is_simple n .are_things)) ∧ FnOk P w K mg base (L2.CX P w) (3 + n) A.a_is_right A.d_is_right ["thing", "place", "depth"] (spM K (cl A) 3 (r_is_simple n .is_right)) ∧ FnOk P w K mg base (L2.CX P w) (3 + n) A.a_is_test A.d_is_test ["thing", "place", "depth", "levels"] (spM K (cl A) 4 (r_is_simple n .is_test)) ∧ FnOk P w K mg base (L2.CX P w) (3 + n) A.a_is_short A.d_is_short ["thing", "place", "depth"] (spM K (cl A) 3 (r_is_simple n .is_short)) ∧ FnOk P w K mg base (L2.CX P w) (3 + n) A.a_is_statement A.d_is_statement ["thing", "place", "depth"] (spM K (cl A) 3 (r_is_simple n .is_statement)) ∧ FnOk P w K mg base (L2.CX P w) (3 + n) A.a_is_block A.d_is_block ["thing", "place", "depth"] (spM K (cl A) 3 (r_is_simple n .is_block))) : FnOk P w K mg base (L2.CX P w) (3 + (n + 1)) A.a_are_things A.d_are_things ["thing", "place", "depth"] (spM K (cl A) 3 (r_is_simple (n + 1) .are_things)) := by
  show FnOk P w K mg base (L2.CX P w) (3 + n + 1) A.a_are_things A.d_are_things ["thing", "place", "depth"] (spM K (cl A) 3 (mFn 3 4 (b_are_things (r_is_simple n))))
  refine fn_ok T.f_are_things sc_are_things rfl rfl fun cdv Ar outer sh H E C => ?_
  unfold b_are_things
  exact css_cons (cs_if (PW.pt (cw_or (ct_not (ct_val (ce_isi .tup (by decide) rfl T.n_isinstance C.hK rfl T.n_tuple (by first | boot_by_name | rfl | kernel_rfl) (ce_var 0)))) (cw_or1 (ct_cmp op_gt om_gt (ce_callB oc_len cm_len rfl T.n_len (by first | boot_by_name | rfl | kernel_rfl) (ca_cons (ce_var 0) (ca_nil))) (ce_gint T.c_MOST_THINGS) (by rfl))))) (css_one (cs_ret (ce_bl))) (css_nil)) (css_cons (cs_for C.own C.calm (bm_name nofx0) (ci_any C.hK (ce_var 0)) (pg_name (i := 3) C.nd rfl (by first | exact Or.inl rfl | exact Or.inr rfl)) (css_one (cs_if (ct_not (ct_val (ce_call (ih.1) C (by first | decide | omega) rfl T.g_is_simple T.f_is_simple.kp T.b_is_simple .nil dfl0 (ca_cons (ce_var 3) (ca_cons (ce_var 1) (ca_cons (ce_var 2) (ca_nil))))))) (css_one (cs_ret (ce_bl))) (css_nil)))) (css_one (cs_ret (ce_bl))))
theorem wr_is_right (T : Tx P K mg A) (n : Nat) (ih : FnOk P w K mg base (L2.CX P w) (3 + n) A.a_is_simple A.d_is_simple ["thing", "place", "depth"] (spM K (cl A) 3 (r_is_simple n .is_simple)) ∧ FnOk P w K mg base (L2.CX P w) (3 + n) A.a_are_things A.d_are_things ["thing", "place", "depth"] (spM K (cl A) 3 (r_is_simple n .are_things)) ∧ FnOk P w K mg base (L2.CX P w) (3 + n) A.a_is_right A.d_is_right ["thing", "place", "depth"] (spM K (cl A) 3 (r_is_simple n .is_right)) ∧ FnOk P w K mg base (L2.CX P w) (3 + n) A.a_is_test A.d_is_test ["thing", "place", "depth", "levels"] (spM K (cl A) 4 (r_is_simple n .is_test)) ∧ FnOk P w K mg base (L2.CX P w) (3 + n) A.a_is_short A.d_is_short ["thing", "place", "depth"] (spM K (cl A) 3 (r_is_simple n .is_short)) ∧ FnOk P w K mg base (L2.CX P w) (3 + n) A.a_is_statement A.d_is_statement ["thing", "place", "depth"] (spM K (cl A) 3 (r_is_simple n .is_statement)) ∧ FnOk P w K mg base (L2.CX P w) (3 + n) A.a_is_block A.d_is_block ["thing", "place", "depth"] (spM K (cl A) 3 (r_is_simple n .is_block))) : FnOk P w K mg base (L2.CX P w) (3 + (n + 1)) A.a_is_right A.d_is_right ["thing", "place", "depth"] (spM K (cl A) 3 (r_is_simple (n + 1) .is_right)) := by
  show FnOk P w K mg base (L2.CX P w) (3 + n + 1) A.a_is_right A.d_is_right ["thing", "place", "depth"] (spM K (cl A) 3 (mFn 3 4 (b_is_right (r_is_simple n))))
  refine fn_ok T.f_is_right sc_is_right rfl rfl fun cdv Ar outer sh H E C => ?_
  unfold b_is_right
  exact css_cons (cs_set 3 C.nd nofx0 (ce_call (w_head T) C (by first | decide | omega) rfl T.g_head T.f_head.kp T.b_head .nil dfl0 (ca_cons (ce_var 0) (ca_nil)))) (css_cons (cs_if (ct_cmp (oo_eq C.hu) om_eq (ce_var 3) (ce_str) (by rfl)) (css_one (cs_ret (ce_and (ce_cmp (oo_eq C.hu) om_eq (ce_callB oc_len cm_len rfl T.n_len (by first | boot_by_name | rfl | kernel_rfl) (ca_cons (ce_var 0) (ca_nil))) (ce_int) (by rfl)) (ce_and (ce_call (ih.1) C (by first | decide | omega) rfl T.g_is_simple T.f_is_simple.kp T.b_is_simple .nil dfl0 (ca_cons (ce_ix C.hu C.hK (ce_var 0) (ce_int) (fun _ _ => rfl)) (ca_cons (ce_var 1) (ca_cons (ce_var 2) (ca_nil))))) (ce_one (ce_call (ih.2.1) C (by first | decide | omega) rfl T.g_are_things T.f_are_things.kp T.b_are_things .nil dfl0 (ca_cons (ce_ix C.hu C.hK (ce_var 0) (ce_int) (fun _ _ => rfl)) (ca_cons (ce_var 1) (ca_cons (ce_var 2) (ca_nil)))))))))) (css_nil)) (css_cons (cs_if (ct_cmp (oo_eq C.hu) om_eq (ce_var 3) (ce_str) (by rfl)) (css_cons (cs_if (PW.pt (cw_or (ct_cmp (oo_ne C.hu) om_ne (ce_callB oc_len cm_len rfl T.n_len (by first | boot_by_name | rfl | kernel_rfl) (ca_cons (ce_var 0) (ca_nil))) (ce_int) (by rfl)) (cw_or1 (ct_not (ct_val (ce_call (ih.1) C (by first | decide | omega) rfl T.g_is_simple T.f_is_simple.kp T.b_is_simple .nil dfl0 (ca_cons (ce_ix C.hu C.hK (ce_var 0) (ce_int) (fun _ _ => rfl)) (ca_cons (ce_var 1) (ca_cons (ce_var 2) (ca_nil)))))))))) (css_one (cs_ret (ce_bl))) (css_nil)) (css_one (cs_ret (ce_and (ce_call (w_is_name T) C (by first | decide | omega) rfl T.g_is_name T.f_is_name.kp T.b_is_name .nil dfl0 (ca_cons (ce_ix C.hu C.hK (ce_var 0) (ce_int) (fun _ _ => rfl)) (ca_nil))) (ce_one (ce_call (ih.2.1) C (by first | decide | omega) rfl T.g_are_things T.f_are_things.kp T.b_are_things .nil dfl0 (ca_cons (ce_ix C.hu C.hK (ce_var 0) (ce_int) (fun _ _ => rfl)) (ca_cons (ce_var 1) (ca_cons (ce_var 2) (ca_nil)))))))))) (css_nil)) (css_cons (cs_if (ct_cmp (oo_eq C.hu) om_eq (ce_var 3) (ce_str) (by rfl)) (css_cons (cs_if (PW.pt (cw_or (ct_cmp (oo_ne C.hu) om_ne (ce_callB oc_len cm_len rfl T.n_len (by first | boot_by_name | rfl | kernel_rfl) (ca_cons (ce_var 0) (ca_nil))) (ce_int) (by rfl)) (cw_or1 (ct_not (ct_val (ce_fld C.hK (fok_has_parent_ok T) (ce_var 1))))))) (css_one (cs_ret (ce_bl))) (css_nil)) (css_one (cs_ret (ce_and (ce_call (w_is_name T) C (by first | decide | omega) rfl T.g_is_name T.f_is_name.kp T.b_is_name .nil dfl0 (ca_cons (ce_ix C.hu C.hK (ce_var 0) (ce_int) (fun _ _ => rfl)) (ca_nil))) (ce_one (ce_call (ih.2.1) C (by first | decide | omega) rfl T.g_are_things T.f_are_things.kp T.b_are_things .nil dfl0 (ca_cons (ce_ix C.hu C.hK (ce_var 0) (ce_int) (fun _ _ => rfl)) (ca_cons (ce_var 1) (ca_cons (ce_var 2) (ca_nil)))))))))) (css_nil)) (css_one (cs_ret (ce_call (ih.1) C (by first | decide | omega) rfl T.g_is_simple T.f_is_simple.kp T.b_is_simple .nil dfl0 (ca_cons (ce_var 0) (ca_cons (ce_var 1) (ca_cons (ce_var 2) (ca_nil))))))))))
theorem wr_is_test (T : Tx P K mg A) (n : Nat) (ih : FnOk P w K mg base (L2.CX P w) (3 + n) A.a_is_simple A.d_is_simple ["thing", "place", "depth"] (spM K (cl A) 3 (r_is_simple n .is_simple)) ∧ FnOk P w K mg base (L2.CX P w) (3 + n) A.a_are_things A.d_are_things ["thing", "place", "depth"] (spM K (cl A) 3 (r_is_simple n .are_things)) ∧ FnOk P w K mg base (L2.CX P w) (3 + n) A.a_is_right A.d_is_right ["thing", "place", "depth"] (spM K (cl A) 3 (r_is_simple n .is_right)) ∧ FnOk P w K mg base (L2.CX P w) (3 + n) A.a_is_test A.d_is_test ["thing", "place", "depth", "levels"] (spM K (cl A) 4 (r_is_simple n .is_test)) ∧ FnOk P w K mg base (L2.CX P w) (3 + n) A.a_is_short A.d_is_short ["thing", "place", "depth"] (spM K (cl A) 3 (r_is_simple n .is_short)) ∧ FnOk P w K mg base (L2.CX P w) (3 + n) A.a_is_statement A.d_is_statement ["thing", "place", "depth"] (spM K (cl A) 3 (r_is_simple n .is_statement)) ∧ FnOk P w K mg base (L2.CX P w) (3 + n) A.a_is_block A.d_is_block ["thing", "place", "depth"] (spM K (cl A) 3 (r_is_simple n .is_block))) : FnOk P w K mg base (L2.CX P w) (3 + (n + 1)) A.a_is_test A.d_is_test ["thing", "place", "depth", "levels"] (spM K (cl A) 4 (r_is_simple (n + 1) .is_test)) := by
  show FnOk P w K mg base (L2.CX P w) (3 + n + 1) A.a_is_test A.d_is_test ["thing", "place", "depth", "levels"] (spM K (cl A) 4 (mFn 4 5 (b_is_test (r_is_simple n))))
  refine fn_okD T.f_is_test sc_is_test rfl rfl fun cdv Ar outer sh H E C => ?_
  unfold b_is_test
  exact css_cons (cs_set 4 C.nd nofx0 (ce_call (w_head T) C (by first | decide | omega) rfl T.g_head T.f_head.kp T.b_head .nil dfl0 (ca_cons (ce_var 0) (ca_nil)))) (css_cons (cs_if (ct_cmp (oo_eq C.hu) om_eq (ce_var 3) (ce_int) (by rfl)) (css_one (cs_ret (ce_bl))) (css_nil)) (css_cons (cs_if (ct_cmp (oo_eq C.hu) om_eq (ce_var 4) (ce_str) (by rfl)) (css_one (cs_ret (ce_and (ce_cmp (oo_eq C.hu) om_eq (ce_callB oc_len cm_len rfl T.n_len (by first | boot_by_name | rfl | kernel_rfl) (ca_cons (ce_var 0) (ca_nil))) (ce_int) (by rfl)) (ce_and (ce_call (ih.1) C (by first | decide | omega) rfl T.g_is_simple T.f_is_simple.kp T.b_is_simple .nil dfl0 (ca_cons (ce_ix C.hu C.hK (ce_var 0) (ce_int) (fun _ _ => rfl)) (ca_cons (ce_var 1) (ca_cons (ce_var 2) (ca_nil))))) (ce_one (ce_call (ih.1) C (by first | decide | omega) rfl T.g_is_simple T.f_is_simple.kp T.b_is_simple .nil dfl0 (ca_cons (ce_ix C.hu C.hK (ce_var 0) (ce_int) (fun _ _ => rfl)) (ca_cons (ce_var 1) (ca_cons (ce_var 2) (ca_nil)))))))))) (css_nil)) (css_cons (cs_if (ct_cmp (oo_eq C.hu) om_eq (ce_var 4) (ce_str) (by rfl)) (css_one (cs_ret (ce_and (ce_cmp (oo_eq C.hu) om_eq (ce_callB oc_len cm_len rfl T.n_len (by first | boot_by_name | rfl | kernel_rfl) (ca_cons (ce_var 0) (ca_nil))) (ce_int) (by rfl)) (ce_one (ce_call (ih.2.2.2.1) C (by first | decide | omega) rfl T.g_is_test T.f_is_test.kp T.b_is_test_4.choose_spec.2 T.b_is_test_4.choose_spec.1 (fun _ _ => .nil) (ca_cons (ce_ix C.hu C.hK (ce_var 0) (ce_int) (fun _ _ => rfl)) (ca_cons (ce_var 1) (ca_cons (ce_var 2) (ca_cons (ce_op op_sub om_sub (ce_var 3) (ce_int)) (ca_nil)))))))))) (css_nil)) (css_cons (cs_if (PW.pt (cw_and (ct_cmp (oo_ne C.hu) om_ne (ce_var 4) (ce_str) (by rfl)) (cw_and1 (ct_cmp (oo_ne C.hu) om_ne (ce_var 4) (ce_str) (by rfl))))) (css_one (cs_ret (ce_bl))) (css_nil)) (css_cons (cs_if (PW.pt (cw_or (ct_cmp (oo_ne C.hu) om_ne (ce_callB oc_len cm_len rfl T.n_len (by first | boot_by_name | rfl | kernel_rfl) (ca_cons (ce_var 0) (ca_nil))) (ce_int) (by rfl)) (cw_or1 (ct_not (ct_val (ce_call (ih.2.2.2.1) C (by first | decide | omega) rfl T.g_is_test T.f_is_test.kp T.b_is_test_4.choose_spec.2 T.b_is_test_4.choose_spec.1 (fun _ _ => .nil) (ca_cons (ce_ix C.hu C.hK (ce_var 0) (ce_int) (fun _ _ => rfl)) (ca_cons (ce_var 1) (ca_cons (ce_var 2) (ca_cons (ce_op op_sub om_sub (ce_var 3) (ce_int)) (ca_nil))))))))))) (css_one (cs_ret (ce_bl))) (css_nil)) (css_one (cs_ret (ce_call (ih.2.2.2.1) C (by first | decide | omega) rfl T.g_is_test T.f_is_test.kp T.b_is_test_4.choose_spec.2 T.b_is_test_4.choose_spec.1 (fun _ _ => .nil) (ca_cons (ce_ix C.hu C.hK (ce_var 0) (ce_int) (fun _ _ => rfl)) (ca_cons (ce_var 1) (ca_cons (ce_var 2) (ca_cons (ce_op op_sub om_sub (ce_var 3) (ce_int)) (ca_nil)))))))))))))
theorem wr_is_short (T : Tx P K mg A) (n : Nat) (ih : FnOk P w K mg base (L2.CX P w) (3 + n) A.a_is_simple A.d_is_simple ["thing", "place", "depth"] (spM K (cl A) 3 (r_is_simple n .is_simple)) ∧ FnOk P w K mg base (L2.CX P w) (3 + n) A.a_are_things A.d_are_things ["thing", "place", "depth"] (spM K (cl A) 3 (r_is_simple n .are_things)) ∧ FnOk P w K mg base (L2.CX P w) (3 + n) A.a_is_right A.d_is_right ["thing", "place", "depth"] (spM K (cl A) 3 (r_is_simple n .is_right)) ∧ FnOk P w K mg base (L2.CX P w) (3 + n) A.a_is_test A.d_is_test ["thing", "place", "depth", "levels"] (spM K (cl A) 4 (r_is_simple n .is_test)) ∧ FnOk P w K mg base (L2.CX P w) (3 + n) A.a_is_short A.d_is_short ["thing", "place", "depth"] (spM K (cl A) 3 (r_is_simple n .is_short)) ∧ FnOk P w K mg base (L2.CX P w) (3 + n) A.a_is_statement A.d_is_statement ["thing", "place", "depth"] (spM K (cl A) 3 (r_is_simple n .is_statement)) ∧ FnOk P w K mg base (L2.CX P w) (3 + n) A.a_is_block A.d_is_block ["thing", "place", "depth"] (spM K (cl A) 3 (r_is_simple n .is_block))) : FnOk P w K mg base (L2.CX P w) (3 + (n + 1)) A.a_is_short A.d_is_short ["thing", "place", "depth"] (spM K (cl A) 3 (r_is_simple (n + 1) .is_short)) := by
  show FnOk P w K mg base (L2.CX P w) (3 + n + 1) A.a_is_short A.d_is_short ["thing", "place", "depth"] (spM K (cl A) 3 (mFn 3 4 (b_is_short (r_is_simple n))))
  refine fn_ok T.f_is_short sc_is_short rfl rfl fun cdv Ar outer sh H E C => ?_
  unfold b_is_short
  exact css_cons (cs_set 3 C.nd nofx0 (ce_call (w_head T) C (by first | decide | omega) rfl T.g_head T.f_head.kp T.b_head .nil dfl0 (ca_cons (ce_var 0) (ca_nil)))) (css_cons (cs_if (PW.pt (cw_or (ct_cmp (oo_eq C.hu) om_eq (ce_var 3) (ce_str) (by rfl)) (cw_or1 (ct_cmp (oo_eq C.hu) om_eq (ce_var 3) (ce_str) (by rfl))))) (css_one (cs_ret (ce_and (ce_cmp (oo_eq C.hu) om_eq (ce_callB oc_len cm_len rfl T.n_len (by first | boot_by_name | rfl | kernel_rfl) (ca_cons (ce_var 0) (ca_nil))) (ce_int) (by rfl)) (ce_and (ce_call (w_is_name T) C (by first | decide | omega) rfl T.g_is_name T.f_is_name.kp T.b_is_name .nil dfl0 (ca_cons (ce_ix C.hu C.hK (ce_var 0) (ce_int) (fun _ _ => rfl)) (ca_nil))) (ce_one (ce_call (ih.2.2.1) C (by first | decide | omega) rfl T.g_is_right T.f_is_right.kp T.b_is_right .nil dfl0 (ca_cons (ce_ix C.hu C.hK (ce_var 0) (ce_int) (fun _ _ => rfl)) (ca_cons (ce_var 1) (ca_cons (ce_var 2) (ca_nil)))))))))) (css_nil)) (css_cons (cs_if (ct_cmp (oo_eq C.hu) om_eq (ce_var 3) (ce_str) (by rfl)) (css_one (cs_ret (ce_and (ce_cmp (oo_eq C.hu) om_eq (ce_callB oc_len cm_len rfl T.n_len (by first | boot_by_name | rfl | kernel_rfl) (ca_cons (ce_var 0) (ca_nil))) (ce_int) (by rfl)) (ce_and (ce_methP (w_Place_has_field T) C (by first | decide | omega) rfl T.cls_Place T.me_Place_has_field T.b_Place_has_field .nil dfl0 (ce_var 1) (ca_cons (ce_ix C.hu C.hK (ce_var 0) (ce_int) (fun _ _ => rfl)) (ca_nil))) (ce_one (ce_call (ih.2.2.1) C (by first | decide | omega) rfl T.g_is_right T.f_is_right.kp T.b_is_right .nil dfl0 (ca_cons (ce_ix C.hu C.hK (ce_var 0) (ce_int) (fun _ _ => rfl)) (ca_cons (ce_var 1) (ca_cons (ce_var 2) (ca_nil)))))))))) (css_nil)) (css_cons (cs_if (ct_cmp (oo_eq C.hu) om_eq (ce_var 3) (ce_str) (by rfl)) (css_one (cs_ret (ce_and (ce_cmp (oo_eq C.hu) om_eq (ce_callB oc_len cm_len rfl T.n_len (by first | boot_by_name | rfl | kernel_rfl) (ca_cons (ce_var 0) (ca_nil))) (ce_int) (by rfl)) (ce_one (ce_call (ih.1) C (by first | decide | omega) rfl T.g_is_simple T.f_is_simple.kp T.b_is_simple .nil dfl0 (ca_cons (ce_ix C.hu C.hK (ce_var 0) (ce_int) (fun _ _ => rfl)) (ca_cons (ce_var 1) (ca_cons (ce_var 2) (ca_nil))))))))) (css_nil)) (css_cons (cs_if (ct_cmp (oo_eq C.hu) om_eq (ce_var 3) (ce_str) (by rfl)) (css_one (cs_ret (ce_and (ce_fld C.hK (fok_may_return_ok T) (ce_var 1)) (ce_and (ce_cmp (oo_eq C.hu) om_eq (ce_callB oc_len cm_len rfl T.n_len (by first | boot_by_name | rfl | kernel_rfl) (ca_cons (ce_var 0) (ca_nil))) (ce_int) (by rfl)) (ce_one (ce_call (ih.2.2.1) C (by first | decide | omega) rfl T.g_is_right T.f_is_right.kp T.b_is_right .nil dfl0 (ca_cons (ce_ix C.hu C.hK (ce_var 0) (ce_int) (fun _ _ => rfl)) (ca_cons (ce_var 1) (ca_cons (ce_var 2) (ca_nil)))))))))) (css_nil)) (css_cons (cs_if (PW.pt (cw_or (ct_cmp (oo_eq C.hu) om_eq (ce_var 3) (ce_str) (by rfl)) (cw_or1 (ct_cmp (oo_eq C.hu) om_eq (ce_var 3) (ce_str) (by rfl))))) (css_one (cs_ret (ce_and (ce_cmp (oo_eq C.hu) om_eq (ce_callB oc_len cm_len rfl T.n_len (by first | boot_by_name | rfl | kernel_rfl) (ca_cons (ce_var 0) (ca_nil))) (ce_int) (by rfl)) (ce_one (ce_call (ih.2.2.1) C (by first | decide | omega) rfl T.g_is_right T.f_is_right.kp T.b_is_right .nil dfl0 (ca_cons (ce_ix C.hu C.hK (ce_var 0) (ce_int) (fun _ _ => rfl)) (ca_cons (ce_var 1) (ca_cons (ce_var 2) (ca_nil))))))))) (css_nil)) (css_one (cs_ret (ce_bl))))))))
theorem wr_is_statement (T : Tx P K mg A) (n : Nat) (ih : FnOk P w K mg base (L2.CX P w) (3 + n) A.a_is_simple A.d_is_simple ["thing", "place", "depth"] (spM K (cl A) 3 (r_is_simple n .is_simple)) ∧ FnOk P w K mg base (L2.CX P w) (3 + n) A.a_are_things A.d_are_things ["thing", "place", "depth"] (spM K (cl A) 3 (r_is_simple n .are_things)) ∧ FnOk P w K mg base (L2.CX P w) (3 + n) A.a_is_right A.d_is_right ["thing", "place", "depth"] (spM K (cl A) 3 (r_is_simple n .is_right)) ∧ FnOk P w K mg base (L2.CX P w) (3 + n) A.a_is_test A.d_is_test ["thing", "place", "depth", "levels"] (spM K (cl A) 4 (r_is_simple n .is_test)) ∧ FnOk P w K mg base (L2.CX P w) (3 + n) A.a_is_short A.d_is_short ["thing", "place", "depth"] (spM K (cl A) 3 (r_is_simple n .is_short)) ∧ FnOk P w K mg base (L2.CX P w) (3 + n) A.a_is_statement A.d_is_statement ["thing", "place", "depth"] (spM K (cl A) 3 (r_is_simple n .is_statement)) ∧ FnOk P w K mg base (L2.CX P w) (3 + n) A.a_is_block A.d_is_block ["thing", "place", "depth"] (spM K (cl A) 3 (r_is_simple n .is_block))) : FnOk P w K mg base (L2.CX P w) (3 + (n + 1)) A.a_is_statement A.d_is_statement ["thing", "place", "depth"] (spM K (cl A) 3 (r_is_simple (n + 1) .is_statement)) := by
  show FnOk P w K mg base (L2.CX P w) (3 + n + 1) A.a_is_statement A.d_is_statement ["thing", "place", "depth"] (spM K (cl A) 3 (mFn 3 4 (b_is_statement (r_is_simple n))))
  refine fn_ok T.f_is_statement sc_is_statement rfl rfl fun cdv Ar outer sh H E C => ?_
  unfold b_is_statement
  exact css_cons (cs_set 3 C.nd nofx0 (ce_call (w_head T) C (by first | decide | omega) rfl T.g_head T.f_head.kp T.b_head .nil dfl0 (ca_cons (ce_var 0) (ca_nil)))) (css_cons (cs_if (ct_cmp (oo_eq C.hu) om_eq (ce_var 3) (ce_str) (by rfl)) (css_cons (cs_if (PW.pt (cw_or (ct_cmp (oo_ne C.hu) om_ne (ce_callB oc_len cm_len rfl T.n_len (by first | boot_by_name | rfl | kernel_rfl) (ca_cons (ce_var 0) (ca_nil))) (ce_int) (by rfl)) (cw_or1 (ct_not (ct_val (ce_call (ih.2.2.2.1) C (by first | decide | omega) rfl T.g_is_test T.f_is_test.kp T.b_is_test_3.choose_spec.2 T.b_is_test_3.choose_spec.1 (fun _ _ => (.cons (.int _) .nil)) (ca_cons (ce_ix C.hu C.hK (ce_var 0) (ce_int) (fun _ _ => rfl)) (ca_cons (ce_var 1) (ca_cons (ce_var 2) (ca_nil)))))))))) (css_one (cs_ret (ce_bl))) (css_nil)) (css_one (cs_ret (ce_and (ce_call (ih.2.2.2.2.2.2) C (by first | decide | omega) rfl T.g_is_block T.f_is_block.kp T.b_is_block .nil dfl0 (ca_cons (ce_ix C.hu C.hK (ce_var 0) (ce_int) (fun _ _ => rfl)) (ca_cons (ce_var 1) (ca_cons (ce_op oo_add om_add (ce_var 2) (ce_int)) (ca_nil))))) (ce_one (ce_call (ih.2.2.2.2.2.2) C (by first | decide | omega) rfl T.g_is_block T.f_is_block.kp T.b_is_block .nil dfl0 (ca_cons (ce_ix C.hu C.hK (ce_var 0) (ce_int) (fun _ _ => rfl)) (ca_cons (ce_var 1) (ca_cons (ce_op oo_add om_add (ce_var 2) (ce_int)) (ca_nil)))))))))) (css_nil)) (css_cons (cs_if (ct_cmp (oo_eq C.hu) om_eq (ce_var 3) (ce_str) (by rfl)) (css_one (cs_ret (ce_and (ce_cmp (oo_eq C.hu) om_eq (ce_callB oc_len cm_len rfl T.n_len (by first | boot_by_name | rfl | kernel_rfl) (ca_cons (ce_var 0) (ca_nil))) (ce_int) (by rfl)) (ce_and (ce_call (ih.2.2.2.1) C (by first | decide | omega) rfl T.g_is_test T.f_is_test.kp T.b_is_test_3.choose_spec.2 T.b_is_test_3.choose_spec.1 (fun _ _ => (.cons (.int _) .nil)) (ca_cons (ce_ix C.hu C.hK (ce_var 0) (ce_int) (fun _ _ => rfl)) (ca_cons (ce_var 1) (ca_cons (ce_var 2) (ca_nil))))) (ce_one (ce_call (ih.2.2.2.2.2.2) C (by first | decide | omega) rfl T.g_is_block T.f_is_block.kp T.b_is_block .nil dfl0 (ca_cons (ce_ix C.hu C.hK (ce_var 0) (ce_int) (fun _ _ => rfl)) (ca_cons (ce_var 1) (ca_cons (ce_op oo_add om_add (ce_var 2) (ce_int)) (ca_nil)))))))))) (css_nil)) (css_cons (cs_if (ct_cmp (oo_eq C.hu) om_eq (ce_var 3) (ce_str) (by rfl)) (css_cons (cs_if (PW.pt (cw_or (ct_cmp (oo_ne C.hu) om_ne (ce_callB oc_len cm_len rfl T.n_len (by first | boot_by_name | rfl | kernel_rfl) (ca_cons (ce_var 0) (ca_nil))) (ce_int) (by rfl)) (cw_or1 (ct_not (ct_val (ce_call (w_is_name T) C (by first | decide | omega) rfl T.g_is_name T.f_is_name.kp T.b_is_name .nil dfl0 (ca_cons (ce_ix C.hu C.hK (ce_var 0) (ce_int) (fun _ _ => rfl)) (ca_nil)))))))) (css_one (cs_ret (ce_bl))) (css_nil)) (css_one (cs_ret (ce_and (ce_call (ih.2.2.2.2.2.2) C (by first | decide | omega) rfl T.g_is_block T.f_is_block.kp T.b_is_block .nil dfl0 (ca_cons (ce_ix C.hu C.hK (ce_var 0) (ce_int) (fun _ _ => rfl)) (ca_cons (ce_var 1) (ca_cons (ce_op oo_add om_add (ce_var 2) (ce_int)) (ca_nil))))) (ce_one (ce_call (ih.2.2.2.2.2.2) C (by first | decide | omega) rfl T.g_is_block T.f_is_block.kp T.b_is_block .nil dfl0 (ca_cons (ce_ix C.hu C.hK (ce_var 0) (ce_int) (fun _ _ => rfl)) (ca_cons (ce_var 1) (ca_cons (ce_op oo_add om_add (ce_var 2) (ce_int)) (ca_nil)))))))))) (css_nil)) (css_cons (cs_if (ct_cmp (oo_eq C.hu) om_eq (ce_var 3) (ce_str) (by rfl)) (css_one (cs_ret (ce_and (ce_cmp (oo_eq C.hu) om_eq (ce_callB oc_len cm_len rfl T.n_len (by first | boot_by_name | rfl | kernel_rfl) (ca_cons (ce_var 0) (ca_nil))) (ce_int) (by rfl)) (ce_and (ce_call (ih.2.2.2.2.2.2) C (by first | decide | omega) rfl T.g_is_block T.f_is_block.kp T.b_is_block .nil dfl0 (ca_cons (ce_ix C.hu C.hK (ce_var 0) (ce_int) (fun _ _ => rfl)) (ca_cons (ce_var 1) (ca_cons (ce_op oo_add om_add (ce_var 2) (ce_int)) (ca_nil))))) (ce_one (ce_call (ih.2.2.2.2.2.2) C (by first | decide | omega) rfl T.g_is_block T.f_is_block.kp T.b_is_block .nil dfl0 (ca_cons (ce_ix C.hu C.hK (ce_var 0) (ce_int) (fun _ _ => rfl)) (ca_cons (ce_var 1) (ca_cons (ce_op oo_add om_add (ce_var 2) (ce_int)) (ca_nil)))))))))) (css_nil)) (css_one (cs_ret (ce_call (ih.2.2.2.2.1) C (by first | decide | omega) rfl T.g_is_short T.f_is_short.kp T.b_is_short .nil dfl0 (ca_cons (ce_var 0) (ca_cons (ce_var 1) (ca_cons (ce_var 2) (ca_nil)))))))))))
theorem wr_is_block (T : Tx P K mg A) (n : Nat) (ih : FnOk P w K mg base (L2.CX P w) (3 + n) A.a_is_simple A.d_is_simple ["thing", "place", "depth"] (spM K (cl A) 3 (r_is_simple n .is_simple)) ∧ FnOk P w K mg base (L2.CX P w) (3 + n) A.a_are_things A.d_are_things ["thing", "place", "depth"] (spM K (cl A) 3 (r_is_simple n .are_things)) ∧ FnOk P w K mg base (L2.CX P w) (3 + n) A.a_is_right A.d_is_right ["thing", "place", "depth"] (spM K (cl A) 3 (r_is_simple n .is_right)) ∧ FnOk P w K mg base (L2.CX P w) (3 + n) A.a_is_test A.d_is_test ["thing", "place", "depth", "levels"] (spM K (cl A) 4 (r_is_simple n .is_test)) ∧ FnOk P w K mg base (L2.CX P w) (3 + n) A.a_is_short A.d_is_short ["thing", "place", "depth"] (spM K (cl A) 3 (r_is_simple n .is_short)) ∧ FnOk P w K mg base (L2.CX P w) (3 + n) A.a_is_statement A.d_is_statement ["thing", "place", "depth"] (spM K (cl A) 3 (r_is_simple n .is_statement)) ∧ FnOk P w K mg base (L2.CX P w) (3 + n) A.a_is_block A.d_is_block ["thing", "place", "depth"] (spM K (cl A) 3 (r_is_simple n .is_block))) : FnOk P w K mg base (L2.CX P w) (3 + (n + 1)) A.a_is_block A.d_is_block ["thing", "place", "depth"] (spM K (cl A) 3 (r_is_simple (n + 1) .is_block)) := by
  show FnOk P w K mg base (L2.CX P w) (3 + n + 1) A.a_is_block A.d_is_block ["thing", "place", "depth"] (spM K (cl A) 3 (mFn 3 4 (b_is_block (r_is_simple n))))
  refine fn_ok T.f_is_block sc_is_block rfl rfl fun cdv Ar outer sh H E C => ?_
  unfold b_is_block
  exact css_cons (cs_if (PW.pt (cw_or (ct_not (ct_val (ce_isi .tup (by decide) rfl T.n_isinstance C.hK rfl T.n_tuple (by first | boot_by_name | rfl | kernel_rfl) (ce_var 0)))) (cw_or (ct_cmp op_gt om_gt (ce_callB oc_len cm_len rfl T.n_len (by first | boot_by_name | rfl | kernel_rfl) (ca_cons (ce_var 0) (ca_nil))) (ce_gint T.c_MOST_STATEMENTS) (by rfl)) (cw_or1 (ct_cmp op_gt om_gt (ce_var 2) (ce_gint T.c_MOST_DEEP) (by rfl)))))) (css_one (cs_ret (ce_bl))) (css_nil)) (css_cons (cs_for C.own C.calm (bm_name nofx0) (ci_any C.hK (ce_var 0)) (pg_name (i := 3) C.nd rfl (by first | exact Or.inl rfl | exact Or.inr rfl)) (css_one (cs_if (ct_not (ct_val (ce_call (ih.2.2.2.2.2.1) C (by first | decide | omega) rfl T.g_is_statement T.f_is_statement.kp T.b_is_statement .nil dfl0 (ca_cons (ce_var 3) (ca_cons (ce_var 1) (ca_cons (ce_var 2) (ca_nil))))))) (css_one (cs_ret (ce_bl))) (css_nil)))) (css_one (cs_ret (ce_bl))))
theorem wa_is_simple (T : Tx P K mg A) : ∀ n : Nat, FnOk P w K mg base (L2.CX P w) (3 + n) A.a_is_simple A.d_is_simple ["thing", "place", "depth"] (spM K (cl A) 3 (r_is_simple n .is_simple)) ∧ FnOk P w K mg base (L2.CX P w) (3 + n) A.a_are_things A.d_are_things ["thing", "place", "depth"] (spM K (cl A) 3 (r_is_simple n .are_things)) ∧ FnOk P w K mg base (L2.CX P w) (3 + n) A.a_is_right A.d_is_right ["thing", "place", "depth"] (spM K (cl A) 3 (r_is_simple n .is_right)) ∧ FnOk P w K mg base (L2.CX P w) (3 + n) A.a_is_test A.d_is_test ["thing", "place", "depth", "levels"] (spM K (cl A) 4 (r_is_simple n .is_test)) ∧ FnOk P w K mg base (L2.CX P w) (3 + n) A.a_is_short A.d_is_short ["thing", "place", "depth"] (spM K (cl A) 3 (r_is_simple n .is_short)) ∧ FnOk P w K mg base (L2.CX P w) (3 + n) A.a_is_statement A.d_is_statement ["thing", "place", "depth"] (spM K (cl A) 3 (r_is_simple n .is_statement)) ∧ FnOk P w K mg base (L2.CX P w) (3 + n) A.a_is_block A.d_is_block ["thing", "place", "depth"] (spM K (cl A) 3 (r_is_simple n .is_block))
  | 0 => ⟨fn_stuck, fn_stuck, fn_stuck, fn_stuck, fn_stuck, fn_stuck, fn_stuck⟩
  | n + 1 => ⟨wr_is_simple T n (wa_is_simple T n), wr_are_things T n (wa_is_simple T n), wr_is_right T n (wa_is_simple T n), wr_is_test T n (wa_is_simple T n), wr_is_short T n (wa_is_simple T n), wr_is_statement T n (wa_is_simple T n), wr_is_block T n (wa_is_simple T n)⟩
theorem w_is_simple (T : Tx P K mg A) : FnOk P w K mg base (L2.CX P w) 83 A.a_is_simple A.d_is_simple ["thing", "place", "depth"] (spM K (cl A) 3 m_is_simple) := (wa_is_simple T 80).1
theorem w_are_things (T : Tx P K mg A) : FnOk P w K mg base (L2.CX P w) 83 A.a_are_things A.d_are_things ["thing", "place", "depth"] (spM K (cl A) 3 m_are_things) := (wa_is_simple T 80).2.1
theorem w_is_right (T : Tx P K mg A) : FnOk P w K mg base (L2.CX P w) 83 A.a_is_right A.d_is_right ["thing", "place", "depth"] (spM K (cl A) 3 m_is_right) := (wa_is_simple T 80).2.2.1
theorem w_is_test (T : Tx P K mg A) : FnOk P w K mg base (L2.CX P w) 83 A.a_is_test A.d_is_test ["thing", "place", "depth", "levels"] (spM K (cl A) 4 m_is_test) := (wa_is_simple T 80).2.2.2.1
theorem w_is_short (T : Tx P K mg A) : FnOk P w K mg base (L2.CX P w) 83 A.a_is_short A.d_is_short ["thing", "place", "depth"] (spM K (cl A) 3 m_is_short) := (wa_is_simple T 80).2.2.2.2.1
theorem w_is_statement (T : Tx P K mg A) : FnOk P w K mg base (L2.CX P w) 83 A.a_is_statement A.d_is_statement ["thing", "place", "depth"] (spM K (cl A) 3 m_is_statement) := (wa_is_simple T 80).2.2.2.2.2.1
theorem w_is_block (T : Tx P K mg A) : FnOk P w K mg base (L2.CX P w) 83 A.a_is_block A.d_is_block ["thing", "place", "depth"] (spM K (cl A) 3 m_is_block) := (wa_is_simple T 80).2.2.2.2.2.2
theorem sc_are_fields : FnScope ["thing", "name", "words"] ["thing"] (defScope (top 22)) := ⟨rfl, rfl, rfl, by decide +kernel, rfl, by decide +kernel, by decide +kernel⟩
theorem w_are_fields (T : Tx P K mg A) : FnOk P w K mg base (L2.CX P w) 3 A.a_are_fields A.d_are_fields ["thing"] (spM K (cl A) 1 m_are_fields) := by
  refine fn_ok T.f_are_fields sc_are_fields rfl rfl fun cdv Ar outer sh H E C => ?_
  unfold b_are_fields
  exact css_cons (cs_if (PW.pt (cw_or (ct_not (ct_val (ce_isi .dct (by decide) rfl T.n_isinstance C.hK rfl T.n_dict (by first | boot_by_name | rfl | kernel_rfl) (ce_var 0)))) (cw_or1 (ct_cmp op_gt om_gt (ce_callB oc_len cm_len rfl T.n_len (by first | boot_by_name | rfl | kernel_rfl) (ca_cons (ce_var 0) (ca_nil))) (ce_gint T.c_MOST_FIELDS) (by rfl))))) (css_one (cs_ret (ce_bl))) (css_nil)) (css_cons (cs_lock (cs_for C.own C.calm (bm_tup (is := [1, 2]) rfl nofxs) (ci_items (ce_var 0)) (pg_tup C.calm (pgs_cons (pg_name (i := 1) C.nd rfl (by first | exact Or.inl rfl | exact Or.inr rfl)) (pgs_cons (pg_name (i := 2) C.nd rfl (by first | exact Or.inl rfl | exact Or.inr rfl)) pgs_nil))) (css_one (cs_if (PW.pt (cw_or (ct_not (ct_val (ce_call (w_is_name T) C (by first | decide | omega) rfl T.g_is_name T.f_is_name.kp T.b_is_name .nil dfl0 (ca_cons (ce_var 1) (ca_nil))))) (cw_or (ct_not (ct_val (ce_call (w_are_names T) C (by first | decide | omega) rfl T.g_are_names T.f_are_names.kp T.b_are_names .nil dfl0 (ca_cons (ce_var 2) (ca_cons (ce_gint T.c_MOST_WORDS) (ca_nil)))))) (cw_or1 (ct_cmp (oo_eq C.hu) om_eq (ce_callB oc_len cm_len rfl T.n_len (by first | boot_by_name | rfl | kernel_rfl) (ca_cons (ce_var 2) (ca_nil))) (ce_int) (by rfl)))))) (css_one (cs_ret (ce_bl))) (css_nil))))) (css_one (cs_ret (ce_bl))))
theorem sc_are_methods : FnScope ["thing", "name", "method"] ["thing"] (defScope (top 23)) := ⟨rfl, rfl, rfl, by decide +kernel, rfl, by decide +kernel, by decide +kernel⟩
theorem w_are_methods (T : Tx P K mg A) : FnOk P w K mg base (L2.CX P w) 3 A.a_are_methods A.d_are_methods ["thing"] (spM K (cl A) 1 m_are_methods) := by
  refine fn_ok T.f_are_methods sc_are_methods rfl rfl fun cdv Ar outer sh H E C => ?_
  unfold b_are_methods
  exact css_cons (cs_if (PW.pt (cw_or (ct_not (ct_val (ce_isi .dct (by decide) rfl T.n_isinstance C.hK rfl T.n_dict (by first | boot_by_name | rfl | kernel_rfl) (ce_var 0)))) (cw_or1 (ct_cmp op_gt om_gt (ce_callB oc_len cm_len rfl T.n_len (by first | boot_by_name | rfl | kernel_rfl) (ca_cons (ce_var 0) (ca_nil))) (ce_gint T.c_MOST_METHODS) (by rfl))))) (css_one (cs_ret (ce_bl))) (css_nil)) (css_cons (cs_lock (cs_for C.own C.calm (bm_tup (is := [1, 2]) rfl nofxs) (ci_items (ce_var 0)) (pg_tup C.calm (pgs_cons (pg_name (i := 1) C.nd rfl (by first | exact Or.inl rfl | exact Or.inr rfl)) (pgs_cons (pg_name (i := 2) C.nd rfl (by first | exact Or.inl rfl | exact Or.inr rfl)) pgs_nil))) (css_cons (cs_if (PW.pt (cw_or (ct_not (ct_val (ce_call (w_is_name T) C (by first | decide | omega) rfl T.g_is_name T.f_is_name.kp T.b_is_name .nil dfl0 (ca_cons (ce_var 1) (ca_nil))))) (cw_or (ct_not (ct_val (ce_isi .tup (by decide) rfl T.n_isinstance C.hK rfl T.n_tuple (by first | boot_by_name | rfl | kernel_rfl) (ce_var 2)))) (cw_or1 (ct_cmp (oo_ne C.hu) om_ne (ce_callB oc_len cm_len rfl T.n_len (by first | boot_by_name | rfl | kernel_rfl) (ca_cons (ce_var 2) (ca_nil))) (ce_int) (by rfl)))))) (css_one (cs_ret (ce_bl))) (css_nil)) (css_one (cs_if (ct_not (ct_val (ce_call (w_are_names T) C (by first | decide | omega) rfl T.g_are_names T.f_are_names.kp T.b_are_names .nil dfl0 (ca_cons (ce_ix C.hu C.hK (ce_var 2) (ce_int) (fun _ _ => rfl)) (ca_cons (ce_gint T.c_MOST_PARAMS) (ca_nil)))))) (css_one (cs_ret (ce_bl))) (css_nil)))))) (css_one (cs_ret (ce_bl))))
theorem sc_is_outline : FnScope ["thing"] ["thing"] (defScope (top 24)) := ⟨rfl, rfl, rfl, by decide +kernel, rfl, by decide +kernel, by decide +kernel⟩
theorem w_is_outline (T : Tx P K mg A) : FnOk P w K mg base (L2.CX P w) 4 A.a_is_outline A.d_is_outline ["thing"] (spM K (cl A) 1 m_is_outline) := by
  refine fn_ok T.f_is_outline sc_is_outline rfl rfl fun cdv Ar outer sh H E C => ?_
  unfold b_is_outline
  exact css_cons (cs_if (PW.pt (cw_or (ct_not (ct_val (ce_isi .tup (by decide) rfl T.n_isinstance C.hK rfl T.n_tuple (by first | boot_by_name | rfl | kernel_rfl) (ce_var 0)))) (cw_or1 (ct_cmp (oo_ne C.hu) om_ne (ce_callB oc_len cm_len rfl T.n_len (by first | boot_by_name | rfl | kernel_rfl) (ca_cons (ce_var 0) (ca_nil))) (ce_int) (by rfl))))) (css_one (cs_ret (ce_bl))) (css_nil)) (css_cons (cs_if (PW.pt (cw_and (ct_notN (ce_ix C.hu C.hK (ce_var 0) (ce_int) (fun _ _ => rfl))) (cw_and1 (ct_not (ct_val (ce_call (w_is_name T) C (by first | decide | omega) rfl T.g_is_name T.f_is_name.kp T.b_is_name .nil dfl0 (ca_cons (ce_ix C.hu C.hK (ce_var 0) (ce_int) (fun _ _ => rfl)) (ca_nil)))))))) (css_one (cs_ret (ce_bl))) (css_nil)) (css_cons (cs_if (PW.pt (cw_or (ct_not (ct_val (ce_isi .str (by decide) rfl T.n_isinstance C.hK rfl T.n_str (by first | boot_by_name | rfl | kernel_rfl) (ce_ix C.hu C.hK (ce_var 0) (ce_int) (fun _ _ => rfl))))) (cw_or1 (ct_cmp (oo_notIn C.hu) om_notIn (ce_ix C.hu C.hK (ce_var 0) (ce_int) (fun _ _ => rfl)) (ce_tup (ca_cons (ce_str) (ca_cons (ce_str) (ca_nil)))) (by rfl))))) (css_one (cs_ret (ce_bl))) (css_nil)) (css_one (cs_ret (ce_and (ce_call (w_are_fields T) C (by first | decide | omega) rfl T.g_are_fields T.f_are_fields.kp T.b_are_fields .nil dfl0 (ca_cons (ce_ix C.hu C.hK (ce_var 0) (ce_int) (fun _ _ => rfl)) (ca_nil))) (ce_one (ce_call (w_are_methods T) C (by first | decide | omega) rfl T.g_are_methods T.f_are_methods.kp T.b_are_methods .nil dfl0 (ca_cons (ce_ix C.hu C.hK (ce_var 0) (ce_int) (fun _ _ => rfl)) (ca_nil)))))))))
theorem sc_parents_end : FnScope ["classes", "name", "parent", "_"] ["classes", "name"] (defScope (top 25)) := ⟨rfl, rfl, rfl, by decide +kernel, rfl, by decide +kernel, by decide +kernel⟩
theorem w_parents_end (T : Tx P K mg A) : FnOk P w K mg base (L2.CX P w) 1 A.a_parents_end A.d_parents_end ["classes", "name"] (spM K (cl A) 2 m_parents_end) := by
  refine fn_ok T.f_parents_end sc_parents_end rfl rfl fun cdv Ar outer sh H E C => ?_
  unfold b_parents_end
  exact css_cons (cs_set 2 C.nd nofx0 (ce_ix C.hu C.hK (ce_ix C.hu C.hK (ce_var 0) (ce_var 1) (fun _ _ => rfl)) (ce_int) (fun _ _ => rfl))) (css_cons (cs_for C.own C.calm (bm_name nofx0) (ci_rng1 rfl T.n_range (ca_cons (ce_gint T.c_MOST_CLASSES) (ca_nil))) (pg_name (i := 3) C.nd rfl (by first | exact Or.inl rfl | exact Or.inr rfl)) (css_cons (cs_if (ct_isN (ce_var 2)) (css_one (cs_ret (ce_bl))) (css_nil)) (css_cons (cs_if (PW.pt (cw_or (ct_cmp (oo_notIn C.hu) om_notIn (ce_var 2) (ce_var 0) (by rfl)) (cw_or1 (ct_cmp (oo_ne C.hu) om_ne (ce_ix C.hu C.hK (ce_ix C.hu C.hK (ce_var 0) (ce_var 2) (fun _ _ => rfl)) (ce_int) (fun _ _ => rfl)) (ce_str) (by rfl))))) (css_one (cs_ret (ce_bl))) (css_nil)) (css_one (cs_set 2 C.nd nofx0 (ce_ix C.hu C.hK (ce_ix C.hu C.hK (ce_var 0) (ce_var 2) (fun _ _ => rfl)) (ce_int) (fun _ _ => rfl))))))) (css_one (cs_ret (ce_bl))))
theorem sc_are_outlines : FnScope ["thing", "name", "cls"] ["thing"] (defScope (top 26)) := ⟨rfl, rfl, rfl, by decide +kernel, rfl, by decide +kernel, by decide +kernel⟩
theorem w_are_outlines (T : Tx P K mg A) : FnOk P w K mg base (L2.CX P w) 5 A.a_are_outlines A.d_are_outlines ["thing"] (spM K (cl A) 1 m_are_outlines) := by
  refine fn_ok T.f_are_outlines sc_are_outlines rfl rfl fun cdv Ar outer sh H E C => ?_
  unfold b_are_outlines
  exact css_cons (cs_if (PW.pt (cw_or (ct_not (ct_val (ce_isi .dct (by decide) rfl T.n_isinstance C.hK rfl T.n_dict (by first | boot_by_name | rfl | kernel_rfl) (ce_var 0)))) (cw_or1 (ct_cmp op_gt om_gt (ce_callB oc_len cm_len rfl T.n_len (by first | boot_by_name | rfl | kernel_rfl) (ca_cons (ce_var 0) (ca_nil))) (ce_gint T.c_MOST_CLASSES) (by rfl))))) (css_one (cs_ret (ce_bl))) (css_nil)) (css_cons (cs_lock (cs_for C.own C.calm (bm_tup (is := [1, 2]) rfl nofxs) (ci_items (ce_var 0)) (pg_tup C.calm (pgs_cons (pg_name (i := 1) C.nd rfl (by first | exact Or.inl rfl | exact Or.inr rfl)) (pgs_cons (pg_name (i := 2) C.nd rfl (by first | exact Or.inl rfl | exact Or.inr rfl)) pgs_nil))) (css_one (cs_if (PW.pt (cw_or (ct_not (ct_val (ce_call (w_is_name T) C (by first | decide | omega) rfl T.g_is_name T.f_is_name.kp T.b_is_name .nil dfl0 (ca_cons (ce_var 1) (ca_nil))))) (cw_or1 (ct_not (ct_val (ce_call (w_is_outline T) C (by first | decide | omega) rfl T.g_is_outline T.f_is_outline.kp T.b_is_outline .nil dfl0 (ca_cons (ce_var 2) (ca_nil)))))))) (css_one (cs_ret (ce_bl))) (css_nil))))) (css_cons (cs_lock (cs_for C.own C.calm (bm_name nofx0) (ci_keys (ce_var 0)) (pg_name (i := 1) C.nd rfl (by first | exact Or.inl rfl | exact Or.inr rfl)) (css_one (cs_if (ct_not (ct_val (ce_call (w_parents_end T) C (by first | decide | omega) rfl T.g_parents_end T.f_parents_end.kp T.b_parents_end .nil dfl0 (ca_cons (ce_var 0) (ca_cons (ce_var 1) (ca_nil)))))) (css_one (cs_ret (ce_bl))) (css_nil))))) (css_one (cs_ret (ce_bl)))))
theorem sc_bad_method : FnScope ["cls", "classes", "place", "name"] ["cls", "classes"] (defScope (top 27)) := ⟨rfl, rfl, rfl, by decide +kernel, rfl, by decide +kernel, by decide +kernel⟩
theorem w_bad_method (T : Tx P K mg A) : FnOk P w K mg base (L2.CX P w) 84 A.a_bad_method A.d_bad_method ["cls", "classes"] (spM K (cl A) 2 m_bad_method) := by
  refine fn_ok T.f_bad_method sc_bad_method rfl rfl fun cdv Ar outer sh H E C => ?_
  unfold b_bad_method
  exact css_cons (cs_set 2 C.nd nofx0 (ce_make T.mk_Place (w_Place___init__ T) C (by first | decide | omega) rfl rfl T.g_Place T.b_Place___init__ .nil dfl0 (ca_cons (ce_callTy call_tuple_of cm_tuple rfl T.n_tuple (by first | boot_by_name | rfl | kernel_rfl) (ca_cons (ce_callB (call_sortedD C.calm) cm_sortedD rfl T.n_sorted (by first | boot_by_name | rfl | kernel_rfl) (ca_cons (ce_ix C.hu C.hK (ce_var 0) (ce_int) (fun _ _ => rfl)) (ca_nil))) (ca_nil))) (ca_cons (ce_notN (ce_ix C.hu C.hK (ce_var 0) (ce_int) (fun _ _ => rfl))) (ca_cons (ce_var 1) (ca_cons (ce_bl) (ca_nil))))))) (css_cons (cs_for C.own C.calm (bm_name nofx0) (ci_any C.hK (ce_callB (call_sortedD C.calm) cm_sortedD rfl T.n_sorted (by first | boot_by_name | rfl | kernel_rfl) (ca_cons (ce_ix C.hu C.hK (ce_var 0) (ce_int) (fun _ _ => rfl)) (ca_nil)))) (pg_name (i := 3) C.nd rfl (by first | exact Or.inl rfl | exact Or.inr rfl)) (css_one (cs_if (ct_not (ct_val (ce_call (w_is_block T) C (by first | decide | omega) rfl T.g_is_block T.f_is_block.kp T.b_is_block .nil dfl0 (ca_cons (ce_ix C.hu C.hK (ce_ix C.hu C.hK (ce_ix C.hu C.hK (ce_var 0) (ce_int) (fun _ _ => rfl)) (ce_var 3) (fun _ _ => rfl)) (ce_int) (fun _ _ => rfl)) (ca_cons (ce_var 2) (ca_cons (ce_int) (ca_nil))))))) (css_one (cs_ret (ce_var 3))) (css_nil)))) (css_one (cs_ret (ce_non))))
theorem sc_copied : FnScope ["cls"] ["cls"] (defScope (top 28)) := ⟨rfl, rfl, rfl, by decide +kernel, rfl, by decide +kernel, by decide +kernel⟩
theorem w_copied (T : Tx P K mg A) : FnOk P w K mg base (L2.CX P w) 1 A.a_copied A.d_copied ["cls"] (spM K (cl A) 1 m_copied) := by
  refine fn_ok T.f_copied sc_copied rfl rfl fun cdv Ar outer sh H E C => ?_
  unfold b_copied
  exact css_one (cs_ret (ce_tup (ca_cons (ce_ix C.hu C.hK (ce_var 0) (ce_int) (fun _ _ => rfl)) (ca_cons (ce_ix C.hu C.hK (ce_var 0) (ce_int) (fun _ _ => rfl)) (ca_cons (ce_callTy call_dictD cm_dict rfl T.n_dict (by first | boot_by_name | rfl | kernel_rfl) (ca_cons (ce_ix C.hu C.hK (ce_var 0) (ce_int) (fun _ _ => rfl)) (ca_nil))) (ca_cons (ce_callTy call_dictD cm_dict rfl T.n_dict (by first | boot_by_name | rfl | kernel_rfl) (ca_cons (ce_ix C.hu C.hK (ce_var 0) (ce_int) (fun _ _ => rfl)) (ca_nil))) (ca_nil)))))))
theorem sc_copied_classes : FnScope ["classes", "name", "cls"] ["classes"] (defScope (top 29)) := ⟨rfl, rfl, rfl, by decide +kernel, rfl, by decide +kernel, by decide +kernel⟩
theorem w_copied_classes (T : Tx P K mg A) : FnOk P w K mg base (L2.CX P w) 2 A.a_copied_classes A.d_copied_classes ["classes"] (spM K (cl A) 1 m_copied_classes) := by
  refine fn_ok T.f_copied_classes sc_copied_classes rfl rfl fun cdv Ar outer sh H E C => ?_
  unfold b_copied_classes
  exact css_one (cs_ret (ce_lock (ce_dc (own := [("name", 1), ("cls", 2)]) C nofxs (bc_tup (is := [1, 2]) rfl nofxs (by decide)) (blkOk_by (N := ["classes", "name", "cls"]) (sc := defScope (top 29)) (by decide +kernel)) (ci_items (ce_var 0)) (fun _ _ _ _ _ => pg_tup C.calm (pgs_cons (pg_name (i := 1) C.nd rfl (Or.inl rfl)) (pgs_cons (pg_name (i := 2) C.nd rfl (Or.inl rfl)) pgs_nil))) (fun _ _ _ _ _ C => cpts_nil) (fun _ _ _ _ _ C => ce_var 1) (fun _ _ _ _ _ C => ce_call (w_copied T) C (by first | decide | omega) rfl T.g_copied T.f_copied.kp T.b_copied .nil dfl0 (ca_cons (ce_var 2) (ca_nil))))))
theorem sc_bad_part : FnScope ["classes", "body", "names", "name", "method"] ["classes", "body"] (defScope (top 34)) := ⟨rfl, rfl, rfl, by decide +kernel, rfl, by decide +kernel, by decide +kernel⟩
theorem w_bad_part (T : Tx P K mg A) : FnOk P w K mg base (L2.CX P w) 85 A.a_bad_part A.d_bad_part ["classes", "body"] (spM K (cl A) 2 m_bad_part) := by
  refine fn_ok T.f_bad_part sc_bad_part rfl rfl fun cdv Ar outer sh H E C => ?_
  unfold b_bad_part
  exact css_cons (cs_if (ct_not (ct_val (ce_call (w_are_outlines T) C (by first | decide | omega) rfl T.g_are_outlines T.f_are_outlines.kp T.b_are_outlines .nil dfl0 (ca_cons (ce_var 0) (ca_nil))))) (css_one (cs_ret (ce_str))) (css_nil)) (css_cons (cs_set 2 C.nd nofx0 (ce_callTy call_tuple_of cm_tuple rfl T.n_tuple (by first | boot_by_name | rfl | kernel_rfl) (ca_cons (ce_callB (call_sortedD C.calm) cm_sortedD rfl T.n_sorted (by first | boot_by_name | rfl | kernel_rfl) (ca_cons (ce_var 0) (ca_nil))) (ca_nil)))) (css_cons (cs_for C.own C.calm (bm_name nofx0) (ci_any C.hK (ce_var 2)) (pg_name (i := 3) C.nd rfl (by first | exact Or.inl rfl | exact Or.inr rfl)) (css_cons (cs_set 4 C.nd nofx0 (ce_call (w_bad_method T) C (by first | decide | omega) rfl T.g_bad_method T.f_bad_method.kp T.b_bad_method .nil dfl0 (ca_cons (ce_ix C.hu C.hK (ce_var 0) (ce_var 3) (fun _ _ => rfl)) (ca_cons (ce_var 2) (ca_nil))))) (css_one (cs_if (ct_notN (ce_var 4)) (css_one (cs_ret (ce_op oo_add om_add (ce_op oo_add om_add (ce_var 3) (ce_str)) (ce_var 4)))) (css_nil))))) (css_cons (cs_if (ct_not (ct_val (ce_call (w_is_block T) C (by first | decide | omega) rfl T.g_is_block T.f_is_block.kp T.b_is_block .nil dfl0 (ca_cons (ce_var 1) (ca_cons (ce_make T.mk_Place (w_Place___init__ T) C (by first | decide | omega) rfl rfl T.g_Place T.b_Place___init__ .nil dfl0 (ca_cons (ce_non) (ca_cons (ce_bl) (ca_cons (ce_var 2) (ca_cons (ce_bl) (ca_nil)))))) (ca_cons (ce_int) (ca_nil))))))) (css_one (cs_ret (ce_str))) (css_nil)) (css_one (cs_ret (ce_non))))))
theorem sc_law_mix : FnScope ["_law_seed", "_law_cell", "_law_number"] ["_law_seed", "_law_cell"] (defScope (top 37)) := ⟨rfl, rfl, rfl, by decide +kernel, rfl, by decide +kernel, by decide +kernel⟩
theorem w_law_mix (T : Tx P K mg A) : FnOk P w K mg base (L2.CX P w) 1 A.a_law_mix A.d_law_mix ["_law_seed", "_law_cell"] (spM K (cl A) 2 m_law_mix) := by
  refine fn_ok T.f_law_mix sc_law_mix rfl rfl fun cdv Ar outer sh H E C => ?_
  unfold b_law_mix
  exact css_cons (cs_set 2 C.nd nofx0 (ce_op op_modN om_mod (ce_op oo_mul om_mul (ce_op oo_add om_add (ce_op oo_add om_add (ce_var 0) (ce_op op_modN om_mod (ce_callTy call_int1 cm_int rfl T.n_int (by first | boot_by_name | rfl | kernel_rfl) (ca_cons (ce_var 1) (ca_nil))) (ce_int))) (ce_int)) (ce_int)) (ce_int))) (css_cons (cs_set 2 C.nd nofx0 (ce_op op_modN om_mod (ce_op oo_mul om_mul (ce_var 2) (ce_op oo_add om_add (ce_op op_fdivN om_fdiv (ce_var 2) (ce_int)) (ce_int))) (ce_int))) (css_one (cs_ret (ce_op op_modN om_mod (ce_op oo_mul om_mul (ce_var 2) (ce_op oo_add om_add (ce_op op_fdivN om_fdiv (ce_var 2) (ce_int)) (ce_int))) (ce_int)))))
theorem sc_law_start : FnScope ["_law_script"] ["_law_script"] (defScope (top 38)) := ⟨rfl, rfl, rfl, by decide +kernel, rfl, by decide +kernel, by decide +kernel⟩
theorem w_law_start (T : Tx P K mg A) : FnOk P w K mg base (L2.CX P w) 1 A.a_law_start A.d_law_start ["_law_script"] (spM K (cl A) 1 m_law_start) := by
  refine fn_ok T.f_law_start sc_law_start rfl rfl fun cdv Ar outer sh H E C => ?_
  unfold b_law_start
  exact css_one (cs_ret (ce_lst (ca_cons (ce_callTy call_list_of cm_list rfl T.n_list (by first | boot_by_name | rfl | kernel_rfl) (ca_cons (ce_slice C.hK (ce_var 0) (co_none) (co_some (ce_int))) (ca_nil))) (ca_cons (ce_int) (ca_cons (ce_int) (ca_cons (ce_int) (ca_nil)))))))
theorem sc_law_draw : FnScope ["_law_state", "_law_many", "_law_cells", "_law_digit", "_law_cell"] ["_law_state", "_law_many"] (defScope (top 39)) := ⟨rfl, rfl, rfl, by decide +kernel, rfl, by decide +kernel, by decide +kernel⟩
theorem w_law_draw (T : Tx P K mg A) : FnOk P w K mg base (L2.CX P w) 2 A.a_law_draw A.d_law_draw ["_law_state", "_law_many"] (spM K (cl A) 2 m_law_draw) := by
  refine fn_ok T.f_law_draw sc_law_draw rfl rfl fun cdv Ar outer sh H E C => ?_
  unfold b_law_draw
  exact css_cons (cs_set 2 C.nd nofx0 (ce_ix C.hu C.hK (ce_var 0) (ce_int) (fun _ _ => rfl))) (css_cons (cs_if (PW.pt (cw_and (ct_cmp (oo_eq C.hu) om_eq (ce_ix C.hu C.hK (ce_var 0) (ce_int) (fun _ _ => rfl)) (ce_int) (by rfl)) (cw_and (ct_cmp op_lt om_lt (ce_ix C.hu C.hK (ce_var 0) (ce_int) (fun _ _ => rfl)) (ce_callB oc_len cm_len rfl T.n_len (by first | boot_by_name | rfl | kernel_rfl) (ca_cons (ce_var 2) (ca_nil))) (by rfl)) (cw_and1 (ct_cmp op_ge om_ge (ce_ix C.hu C.hK (ce_var 2) (ce_ix C.hu C.hK (ce_var 0) (ce_int) (fun _ _ => rfl)) (fun _ _ => rfl)) (ce_op op_pow om_pow (ce_int) (ce_int)) (by rfl)))))) (css_cons (cs_store (os_any C.hu) sm_any (ce_ix C.hu C.hK (ce_var 2) (ce_ix C.hu C.hK (ce_var 0) (ce_int) (fun _ _ => rfl)) (fun _ _ => rfl)) (ce_var 0) (ce_int)) (css_one (cs_augS C.hu C.hK oi_iadd om_iadd (ce_var 0) (ce_int) (ce_int)))) (css_nil)) (css_cons (cs_if (ct_cmp op_gt om_gt (ce_ix C.hu C.hK (ce_var 0) (ce_int) (fun _ _ => rfl)) (ce_int) (by rfl)) (css_cons (cs_set 3 C.nd nofx0 (ce_op op_modN om_mod (ce_callTy call_int1 cm_int rfl T.n_int (by first | boot_by_name | rfl | kernel_rfl) (ca_cons (ce_ix C.hu C.hK (ce_var 0) (ce_int) (fun _ _ => rfl)) (ca_nil))) (ce_var 1))) (css_cons (cs_store (os_any C.hu) sm_any (ce_op op_fdivN om_fdiv (ce_ix C.hu C.hK (ce_var 0) (ce_int) (fun _ _ => rfl)) (ce_var 1)) (ce_var 0) (ce_int)) (css_one (cs_ret (ce_var 3))))) (css_nil)) (css_cons (cs_set 4 C.nd nofx0 (ce_ix C.hu C.hK (ce_var 0) (ce_int) (fun _ _ => rfl))) (css_cons (cs_if (ct_cmp op_lt om_lt (ce_ix C.hu C.hK (ce_var 0) (ce_int) (fun _ _ => rfl)) (ce_callB oc_len cm_len rfl T.n_len (by first | boot_by_name | rfl | kernel_rfl) (ca_cons (ce_var 2) (ca_nil))) (by rfl)) (css_one (cs_set 4 C.nd nofx0 (ce_op oo_add om_add (ce_var 4) (ce_ix C.hu C.hK (ce_var 2) (ce_ix C.hu C.hK (ce_var 0) (ce_int) (fun _ _ => rfl)) (fun _ _ => rfl))))) (css_nil)) (css_cons (cs_augS C.hu C.hK oi_iadd om_iadd (ce_var 0) (ce_int) (ce_int)) (css_cons (cs_store (os_any C.hu) sm_any (ce_call (w_law_mix T) C (by first | decide | omega) rfl T.g_law_mix T.f_law_mix.kp T.b_law_mix .nil dfl0 (ca_cons (ce_ix C.hu C.hK (ce_var 0) (ce_int) (fun _ _ => rfl)) (ca_cons (ce_var 4) (ca_nil)))) (ce_var 0) (ce_int)) (css_one (cs_ret (ce_op op_modN om_mod (ce_op op_fdivN om_fdiv (ce_callTy call_int1 cm_int rfl T.n_int (by first | boot_by_name | rfl | kernel_rfl) (ca_cons (ce_ix C.hu C.hK (ce_var 0) (ce_int) (fun _ _ => rfl)) (ca_nil))) (ce_int)) (ce_var 1))))))))))
theorem sc_law_tools : FnScope ["_law_state", "_law_tools_here"] ["_law_state"] (defScope (top 40)) := ⟨rfl, rfl, rfl, by decide +kernel, rfl, by decide +kernel, by decide +kernel⟩
theorem w_law_tools (T : Tx P K mg A) : FnOk P w K mg base (L2.CX P w) 3 A.a_law_tools A.d_law_tools ["_law_state"] (spM K (cl A) 1 m_law_tools) := by
  refine fn_ok T.f_law_tools sc_law_tools rfl rfl fun cdv Ar outer sh H E C => ?_
  unfold b_law_tools
  exact css_cons (cs_set 1 C.nd nofx0 (ce_disp (cp_cons (ce_str) (ce_cmp (oo_eq C.hu) om_eq (ce_call (w_law_draw T) C (by first | decide | omega) rfl T.g_law_draw T.f_law_draw.kp T.b_law_draw .nil dfl0 (ca_cons (ce_var 0) (ca_cons (ce_int) (ca_nil)))) (ce_int) (by rfl)) (cp_cons (ce_str) (ce_op oo_add om_add (ce_int) (ce_call (w_law_draw T) C (by first | decide | omega) rfl T.g_law_draw T.f_law_draw.kp T.b_law_draw .nil dfl0 (ca_cons (ce_var 0) (ca_cons (ce_int) (ca_nil))))) (cp_cons (ce_str) (ce_bl) (cp_cons (ce_str) (ce_un un_neg um_neg (ce_int)) cp_nil)))))) (css_cons (cs_if (ct_cmp op_gt om_gt (ce_call (w_law_draw T) C (by first | decide | omega) rfl T.g_law_draw T.f_law_draw.kp T.b_law_draw .nil dfl0 (ca_cons (ce_var 0) (ca_cons (ce_int) (ca_nil)))) (ce_int) (by rfl)) (css_one (cs_store (os_any C.hu) sm_any (ce_call (w_law_draw T) C (by first | decide | omega) rfl T.g_law_draw T.f_law_draw.kp T.b_law_draw .nil dfl0 (ca_cons (ce_var 0) (ca_cons (ce_int) (ca_nil)))) (ce_var 1) (ce_str))) (css_nil)) (css_cons (cs_store (os_any C.hu) sm_any (ce_call (w_law_draw T) C (by first | decide | omega) rfl T.g_law_draw T.f_law_draw.kp T.b_law_draw .nil dfl0 (ca_cons (ce_var 0) (ca_cons (ce_int) (ca_nil)))) (ce_var 1) (ce_str)) (css_cons (cs_store (os_any C.hu) sm_any (ce_ix C.hu C.hK (ce_lst (ca_cons (ce_int) (ca_cons (ce_bl) (ca_cons (ce_non) (ca_cons (ce_str) (ca_cons (ce_str) (ca_cons (ce_lst (ca_nil)) (ca_cons (ce_dict0) (ca_cons (ce_tup (ca_cons (ce_str) (ca_nil))) (ca_nil)))))))))) (ce_call (w_law_draw T) C (by first | decide | omega) rfl T.g_law_draw T.f_law_draw.kp T.b_law_draw .nil dfl0 (ca_cons (ce_var 0) (ca_cons (ce_int) (ca_nil)))) (fun _ _ => rfl)) (ce_var 1) (ce_str)) (css_one (cs_ret (ce_var 1))))))
theorem sc_law_hit : FnScope ["_law_tools_here"] ["_law_tools_here"] (defScope (top 41)) := ⟨rfl, rfl, rfl, by decide +kernel, rfl, by decide +kernel, by decide +kernel⟩
theorem w_law_hit (T : Tx P K mg A) : FnOk P w K mg base (L2.CX P w) 1 A.a_law_hit A.d_law_hit ["_law_tools_here"] (spM K (cl A) 1 m_law_hit) := by
  refine fn_ok T.f_law_hit sc_law_hit rfl rfl fun cdv Ar outer sh H E C => ?_
  unfold b_law_hit
  exact css_cons (cs_augS C.hu C.hK iop_sub om_isub (ce_var 0) (ce_str) (ce_int)) (css_cons (cs_if (PW.pt (cw_and (ct_cmp (oo_eq C.hu) om_eq (ce_ix C.hu C.hK (ce_var 0) (ce_str) (fun _ _ => rfl)) (ce_un un_neg um_neg (ce_int)) (by rfl)) (cw_and1 (ct_not (ct_val (ce_ix C.hu C.hK (ce_var 0) (ce_str) (fun _ _ => rfl))))))) (css_cons (cs_store (os_any C.hu) sm_any (ce_bl) (ce_var 0) (ce_str)) (css_one (cs_ret (ce_bl)))) (css_nil)) (css_one (cs_ret (ce_bl))))
theorem sc_law_part : FnScope ["_law_tools_here", "_law_part_here"] ["_law_tools_here", "_law_part_here"] (defScope (top 42)) := ⟨rfl, rfl, rfl, by decide +kernel, rfl, by decide +kernel, by decide +kernel⟩
theorem w_law_part (T : Tx P K mg A) : FnOk P w K mg base (L2.CX P w) 2 A.a_law_part A.d_law_part ["_law_tools_here", "_law_part_here"] (spM K (cl A) 2 m_law_part) := by
  refine fn_ok T.f_law_part sc_law_part rfl rfl fun cdv Ar outer sh H E C => ?_
  unfold b_law_part
  exact css_cons (cs_if (ct_not (ct_val (ce_call (w_law_hit T) C (by first | decide | omega) rfl T.g_law_hit T.f_law_hit.kp T.b_law_hit .nil dfl0 (ca_cons (ce_var 0) (ca_nil))))) (css_one (cs_ret (ce_var 1))) (css_nil)) (css_cons (cs_if (ct_cmp (oo_eq C.hu) om_eq (ce_ix C.hu C.hK (ce_var 0) (ce_str) (fun _ _ => rfl)) (ce_int) (by rfl)) (css_one (cs_ret (ce_callTy call_list_of cm_list rfl T.n_list (by first | boot_by_name | rfl | kernel_rfl) (ca_cons (ce_var 1) (ca_nil))))) (css_nil)) (css_cons (cs_if (ct_cmp (oo_eq C.hu) om_eq (ce_ix C.hu C.hK (ce_var 0) (ce_str) (fun _ _ => rfl)) (ce_int) (by rfl)) (css_one (cs_ret (ce_op oo_add om_add (ce_var 1) (ce_tup (ca_cons (ce_tup (ca_cons (ce_str) (ca_nil))) (ca_nil)))))) (css_nil)) (css_cons (cs_if (ct_cmp (oo_eq C.hu) om_eq (ce_ix C.hu C.hK (ce_var 0) (ce_str) (fun _ _ => rfl)) (ce_int) (by rfl)) (css_one (cs_ret (ce_slice C.hK (ce_var 1) (co_none) (co_some (ce_un un_neg um_neg (ce_int)))))) (css_nil)) (css_cons (cs_if (ct_cmp (oo_eq C.hu) om_eq (ce_ix C.hu C.hK (ce_var 0) (ce_str) (fun _ _ => rfl)) (ce_int) (by rfl)) (css_one (cs_ret (ce_op oo_add om_add (ce_tup (ca_cons (ce_op oo_add om_add (ce_ix C.hu C.hK (ce_var 1) (ce_int) (fun _ _ => rfl)) (ce_str)) (ca_nil))) (ce_slice C.hK (ce_var 1) (co_some (ce_int)) (co_none))))) (css_nil)) (css_cons (cs_if (ct_cmp (oo_eq C.hu) om_eq (ce_ix C.hu C.hK (ce_var 0) (ce_str) (fun _ _ => rfl)) (ce_int) (by rfl)) (css_one (cs_ret (ce_ix C.hu C.hK (ce_var 0) (ce_str) (fun _ _ => rfl)))) (css_nil)) (css_one (cs_ret (ce_tup (ca_cons (ce_var 1) (ca_nil))))))))))
theorem sc_law_row : FnScope ["_law_tools_here", "_law_row_here", "_law_many", "_law_odd"] ["_law_tools_here", "_law_row_here", "_law_many", "_law_odd"] (defScope (top 43)) := ⟨rfl, rfl, rfl, by decide +kernel, rfl, by decide +kernel, by decide +kernel⟩
theorem w_law_row (T : Tx P K mg A) : FnOk P w K mg base (L2.CX P w) 2 A.a_law_row A.d_law_row ["_law_tools_here", "_law_row_here", "_law_many", "_law_odd"] (spM K (cl A) 4 m_law_row) := by
  refine fn_ok T.f_law_row sc_law_row rfl rfl fun cdv Ar outer sh H E C => ?_
  unfold b_law_row
  exact css_cons (cs_if (ct_not (ct_val (ce_call (w_law_hit T) C (by first | decide | omega) rfl T.g_law_hit T.f_law_hit.kp T.b_law_hit .nil dfl0 (ca_cons (ce_var 0) (ca_nil))))) (css_one (cs_ret (ce_var 1))) (css_nil)) (css_cons (cs_if (ct_cmp op_lt om_lt (ce_ix C.hu C.hK (ce_var 0) (ce_str) (fun _ _ => rfl)) (ce_int) (by rfl)) (css_one (cs_ret (ce_callTy call_list_of cm_list rfl T.n_list (by first | boot_by_name | rfl | kernel_rfl) (ca_cons (ce_var 1) (ca_nil))))) (css_nil)) (css_cons (cs_if (ct_cmp op_lt om_lt (ce_ix C.hu C.hK (ce_var 0) (ce_str) (fun _ _ => rfl)) (ce_int) (by rfl)) (css_one (cs_ret (ce_slice C.hK (ce_op oo_add om_add (ce_var 1) (ce_var 2)) (co_none) (co_some (ce_int))))) (css_nil)) (css_one (cs_ret (ce_op oo_add om_add (ce_slice C.hK (ce_var 1) (co_none) (co_some (ce_int))) (ce_var 3))))))
theorem sc_law_name : FnScope ["_law_state", "_law_letters", "_law_size", "_law_k"] ["_law_state"] (defScope (top 44)) := ⟨rfl, rfl, rfl, by decide +kernel, rfl, by decide +kernel, by decide +kernel⟩
theorem w_law_name (T : Tx P K mg A) : FnOk P w K mg base (L2.CX P w) 3 A.a_law_name A.d_law_name ["_law_state"] (spM K (cl A) 1 m_law_name) := by
  refine fn_ok T.f_law_name sc_law_name rfl rfl fun cdv Ar outer sh H E C => ?_
  unfold b_law_name
  exact css_cons (cs_set 1 C.nd nofx0 (ce_str)) (css_cons (cs_set 2 C.nd nofx0 (ce_op oo_add om_add (ce_int) (ce_call (w_law_draw T) C (by first | decide | omega) rfl T.g_law_draw T.f_law_draw.kp T.b_law_draw .nil dfl0 (ca_cons (ce_var 0) (ca_cons (ce_int) (ca_nil)))))) (css_one (cs_ret (ce_meth PySem.F.plainAttrs_str PySem.F.slot_str_join PySem.F.type_str_join mt_join C.hK (fun _ _ _ _ _ => ty_str) mm_join (ce_str) (ca_cons (ce_lc (own := [("_law_k", 3)]) C nofxs (bc_name nofx0 (by decide)) (blkOk_by (N := ["_law_state", "_law_letters", "_law_size", "_law_k"]) (sc := defScope (top 44)) (by decide +kernel)) (ci_rng1 rfl T.n_range (ca_cons (ce_var 2) (ca_nil))) (fun _ _ _ _ _ => pg_name (i := 3) C.nd rfl (Or.inl rfl)) (fun _ _ _ _ _ C => cpts_nil) (fun _ _ _ _ _ C => ce_ix C.hu C.hK (ce_var 1) (ce_call (w_law_draw T) C (by first | decide | omega) rfl T.g_law_draw T.f_law_draw.kp T.b_law_draw .nil dfl0 (ca_cons (ce_var 0) (ca_cons (ce_int) (ca_nil)))) (fun _ _ => rfl))) (ca_nil))))))
theorem sc_law_params : FnScope ["_law_state", "_law_tools_here", "_law_params_here"] ["_law_state", "_law_tools_here"] (defScope (top 45)) := ⟨rfl, rfl, rfl, by decide +kernel, rfl, by decide +kernel, by decide +kernel⟩
theorem w_law_params (T : Tx P K mg A) : FnOk P w K mg base (L2.CX P w) 3 A.a_law_params A.d_law_params ["_law_state", "_law_tools_here"] (spM K (cl A) 2 m_law_params) := by
  refine fn_ok T.f_law_params sc_law_params rfl rfl fun cdv Ar outer sh H E C => ?_
  unfold b_law_params
  exact css_cons (cs_set 2 C.nd nofx0 (ce_ix C.hu C.hK (ce_lst (ca_cons (ce_tup (ca_cons (ce_str) (ca_cons (ce_str) (ca_cons (ce_str) (ca_nil))))) (ca_cons (ce_tup (ca_cons (ce_str) (ca_cons (ce_str) (ca_nil)))) (ca_cons (ce_tup (ca_cons (ce_str) (ca_nil))) (ca_cons (ce_tup (ca_nil)) (ca_cons (ce_tup (ca_cons (ce_str) (ca_cons (ce_str) (ca_cons (ce_str) (ca_nil))))) (ca_nil))))))) (ce_call (w_law_draw T) C (by first | decide | omega) rfl T.g_law_draw T.f_law_draw.kp T.b_law_draw .nil dfl0 (ca_cons (ce_var 0) (ca_cons (ce_int) (ca_nil)))) (fun _ _ => rfl))) (css_one (cs_ret (ce_call (w_law_row T) C (by first | decide | omega) rfl T.g_law_row T.f_law_row.kp T.b_law_row .nil dfl0 (ca_cons (ce_var 1) (ca_cons (ce_var 2) (ca_cons (ce_tup (ca_cons (ce_str) (ca_cons (ce_str) (ca_cons (ce_str) (ca_cons (ce_str) (ca_nil)))))) (ca_cons (ce_tup (ca_cons (ce_str) (ca_cons (ce_str) (ca_nil)))) (ca_nil))))))))
theorem sc_law_things : FnScope ["_law_state", "_law_tools_here", "_law_depth", "_law_many", "_law_things_here", "_law_none", "_law_k"] ["_law_state", "_law_tools_here", "_law_depth"] (defScope (top 46)) := ⟨rfl, rfl, rfl, by decide +kernel, rfl, by decide +kernel, by decide +kernel⟩
theorem sc_law_simple : FnScope ["_law_state", "_law_tools_here", "_law_depth", "_law_kind", "_law_part_here", "_law_params_here"] ["_law_state", "_law_tools_here", "_law_depth"] (defScope (top 47)) := ⟨rfl, rfl, rfl, by decide +kernel, rfl, by decide +kernel, by decide +kernel⟩
theorem sc_law_right : FnScope ["_law_state", "_law_tools_here", "_law_depth", "_law_kind", "_law_one"] ["_law_state", "_law_tools_here", "_law_depth"] (defScope (top 48)) := ⟨rfl, rfl, rfl, by decide +kernel, rfl, by decide +kernel, by decide +kernel⟩
theorem sc_law_test : FnScope ["_law_state", "_law_tools_here", "_law_depth", "_law_levels", "_law_kind", "_law_one", "_law_other"] ["_law_state", "_law_tools_here", "_law_depth", "_law_levels"] (defScope (top 49)) := ⟨rfl, rfl, rfl, by decide +kernel, rfl, by decide +kernel, by decide +kernel⟩
theorem sc_law_statement : FnScope ["_law_state", "_law_tools_here", "_law_depth", "_law_kind", "_law_part_here"] ["_law_state", "_law_tools_here", "_law_depth"] (defScope (top 50)) := ⟨rfl, rfl, rfl, by decide +kernel, rfl, by decide +kernel, by decide +kernel⟩
theorem sc_law_block : FnScope ["_law_state", "_law_tools_here", "_law_depth", "_law_many", "_law_k"] ["_law_state", "_law_tools_here", "_law_depth"] (defScope (top 51)) := ⟨rfl, rfl, rfl, by decide +kernel, rfl, by decide +kernel, by decide +kernel⟩
theorem wr_law_things (T : Tx P K mg A) (n : Nat) (ih : FnOk P w K mg base (L2.CX P w) (3 + n) A.a_law_things A.d_law_things ["_law_state", "_law_tools_here", "_law_depth"] (spM K (cl A) 3 (r_law_things n .law_things)) ∧ FnOk P w K mg base (L2.CX P w) (3 + n) A.a_law_simple A.d_law_simple ["_law_state", "_law_tools_here", "_law_depth"] (spM K (cl A) 3 (r_law_things n .law_simple)) ∧ FnOk P w K mg base (L2.CX P w) (3 + n) A.a_law_right A.d_law_right ["_law_state", "_law_tools_here", "_law_depth"] (spM K (cl A) 3 (r_law_things n .law_right)) ∧ FnOk P w K mg base (L2.CX P w) (3 + n) A.a_law_test A.d_law_test ["_law_state", "_law_tools_here", "_law_depth", "_law_levels"] (spM K (cl A) 4 (r_law_things n .law_test)) ∧ FnOk P w K mg base (L2.CX P w) (3 + n) A.a_law_statement A.d_law_statement ["_law_state", "_law_tools_here", "_law_depth"] (spM K (cl A) 3 (r_law_things n .law_statement)) ∧ FnOk P w K mg base (L2.CX P w) (3 + n) A.a_law_block A.d_law_block ["_law_state", "_law_tools_here", "_law_depth"] (spM K (cl A) 3 (r_law_things n .law_block))) : FnOk P w K mg base (L2.CX P w) (3 + (n + 1)) A.a_law_things A.d_law_things ["_law_state", "_law_tools_here", "_law_depth"] (spM K (cl A) 3 (r_law_things (n + 1) .law_things)) := by
  show FnOk P w K mg base (L2.CX P w) (3 + n + 1) A.a_law_things A.d_law_things ["_law_state", "_law_tools_here", "_law_depth"] (spM K (cl A) 3 (mFn 3 7 (b_law_things (r_law_things n))))
  refine fn_ok T.f_law_things sc_law_things rfl rfl fun cdv Ar outer sh H E C => ?_
  unfold b_law_things
  exact css_cons (cs_set 3 C.nd nofx0 (ce_int)) (css_cons (cs_if (ct_cmp op_gt om_gt (ce_ix C.hu C.hK (ce_var 1) (ce_str) (fun _ _ => rfl)) (ce_int) (by rfl)) (css_one (cs_set 3 C.nd nofx0 (ce_call (w_law_draw T) C (by first | decide | omega) rfl T.g_law_draw T.f_law_draw.kp T.b_law_draw .nil dfl0 (ca_cons (ce_var 0) (ca_cons (ce_int) (ca_nil)))))) (css_nil)) (css_cons (cs_set 4 C.nd nofx0 (ce_callTy call_tuple_of cm_tuple rfl T.n_tuple (by first | boot_by_name | rfl | kernel_rfl) (ca_cons (ce_lc (own := [("_law_k", 6)]) C nofxs (bc_name nofx0 (by decide)) (blkOk_by (N := ["_law_state", "_law_tools_here", "_law_depth", "_law_many", "_law_things_here", "_law_none", "_law_k"]) (sc := defScope (top 46)) (by decide +kernel)) (ci_rng1 rfl T.n_range (ca_cons (ce_var 3) (ca_nil))) (fun _ _ _ _ _ => pg_name (i := 6) C.nd rfl (Or.inl rfl)) (fun _ _ _ _ _ C => cpts_nil) (fun _ _ _ _ _ C => ce_call (ih.2.1) C (by first | decide | omega) rfl T.g_law_simple T.f_law_simple.kp T.b_law_simple .nil dfl0 (ca_cons (ce_var 0) (ca_cons (ce_var 1) (ca_cons (ce_var 2) (ca_nil)))))) (ca_nil)))) (css_cons (cs_set 5 C.nd nofx0 (ce_tup (ca_cons (ce_str) (ca_nil)))) (css_one (cs_ret (ce_call (w_law_row T) C (by first | decide | omega) rfl T.g_law_row T.f_law_row.kp T.b_law_row .nil dfl0 (ca_cons (ce_var 1) (ca_cons (ce_var 4) (ca_cons (ce_tup (ca_cons (ce_var 5) (ca_cons (ce_var 5) (ca_cons (ce_var 5) (ca_cons (ce_var 5) (ca_nil)))))) (ca_cons (ce_tup (ca_cons (ce_tup (ca_cons (ce_str) (ca_cons (ce_tup (ca_cons (ce_str) (ca_cons (ce_str) (ca_nil)))) (ca_cons (ce_tup (ca_nil)) (ca_nil))))) (ca_nil))) (ca_nil)))))))))))
theorem wr_law_simple (T : Tx P K mg A) (n : Nat) (ih : FnOk P w K mg base (L2.CX P w) (3 + n) A.a_law_things A.d_law_things ["_law_state", "_law_tools_here", "_law_depth"] (spM K (cl A) 3 (r_law_things n .law_things)) ∧ FnOk P w K mg base (L2.CX P w) (3 + n) A.a_law_simple A.d_law_simple ["_law_state", "_law_tools_here", "_law_depth"] (spM K (cl A) 3 (r_law_things n .law_simple)) ∧ FnOk P w K mg base (L2.CX P w) (3 + n) A.a_law_right A.d_law_right ["_law_state", "_law_tools_here", "_law_depth"] (spM K (cl A) 3 (r_law_things n .law_right)) ∧ FnOk P w K mg base (L2.CX P w) (3 + n) A.a_law_test A.d_law_test ["_law_state", "_law_tools_here", "_law_depth", "_law_levels"] (spM K (cl A) 4 (r_law_things n .law_test)) ∧ FnOk P w K mg base (L2.CX P w) (3 + n) A.a_law_statement A.d_law_statement ["_law_state", "_law_tools_here", "_law_depth"] (spM K (cl A) 3 (r_law_things n .law_statement)) ∧ FnOk P w K mg base (L2.CX P w) (3 + n) A.a_law_block A.d_law_block ["_law_state", "_law_tools_here", "_law_depth"] (spM K (cl A) 3 (r_law_things n .law_block))) : FnOk P w K mg base (L2.CX P w) (3 + (n + 1)) A.a_law_simple A.d_law_simple ["_law_state", "_law_tools_here", "_law_depth"] (spM K (cl A) 3 (r_law_things (n + 1) .law_simple)) := by
  show FnOk P w K mg base (L2.CX P w) (3 + n + 1) A.a_law_simple A.d_law_simple ["_law_state", "_law_tools_here", "_law_depth"] (spM K (cl A) 3 (mFn 3 6 (b_law_simple (r_law_things n))))
  refine fn_ok T.f_law_simple sc_law_simple rfl rfl fun cdv Ar outer sh H E C => ?_
  unfold b_law_simple
  exact css_cons (cs_augS C.hu C.hK iop_sub om_isub (ce_var 1) (ce_str) (ce_int)) (css_cons (cs_set 3 C.nd nofx0 (ce_call (w_law_draw T) C (by first | decide | omega) rfl T.g_law_draw T.f_law_draw.kp T.b_law_draw .nil dfl0 (ca_cons (ce_var 0) (ca_cons (ce_int) (ca_nil))))) (css_cons (cs_if (PW.pt (cw_or (ct_cmp op_le om_le (ce_ix C.hu C.hK (ce_var 1) (ce_str) (fun _ _ => rfl)) (ce_int) (by rfl)) (cw_or1 (ct_cmp op_gt om_gt (ce_var 2) (ce_int) (by rfl))))) (css_one (cs_set 3 C.nd nofx0 (ce_op op_modN om_mod (ce_var 3) (ce_int)))) (css_nil)) (css_cons (cs_set 4 C.nd nofx0 (ce_tup (ca_cons (ce_str) (ca_nil)))) (css_cons (cs_if (ct_cmp (oo_eq C.hu) om_eq (ce_var 3) (ce_int) (by rfl)) (css_one (cs_set 4 C.nd nofx0 (ce_tup (ca_cons (ce_str) (ca_cons (ce_call (w_law_name T) C (by first | decide | omega) rfl T.g_law_name T.f_law_name.kp T.b_law_name .nil dfl0 (ca_cons (ce_var 0) (ca_nil))) (ca_nil)))))) (css_nil)) (css_cons (cs_if (PW.pt (cw_or (ct_cmp (oo_eq C.hu) om_eq (ce_var 3) (ce_int) (by rfl)) (cw_or1 (ct_cmp (oo_eq C.hu) om_eq (ce_var 3) (ce_int) (by rfl))))) (css_one (cs_set 4 C.nd nofx0 (ce_tup (ca_cons (ce_str) (ca_cons (ce_call (w_law_name T) C (by first | decide | omega) rfl T.g_law_name T.f_law_name.kp T.b_law_name .nil dfl0 (ca_cons (ce_var 0) (ca_nil))) (ca_nil)))))) (css_nil)) (css_cons (cs_if (PW.pt (cw_or (ct_cmp (oo_eq C.hu) om_eq (ce_var 3) (ce_int) (by rfl)) (cw_or1 (ct_cmp (oo_eq C.hu) om_eq (ce_var 3) (ce_int) (by rfl))))) (css_cons (cs_set 4 C.nd nofx0 (ce_tup (ca_cons (ce_str) (ca_cons (ce_ix C.hu C.hK (ce_lst (ca_cons (ce_str) (ca_cons (ce_str) (ca_nil)))) (ce_call (w_law_draw T) C (by first | decide | omega) rfl T.g_law_draw T.f_law_draw.kp T.b_law_draw .nil dfl0 (ca_cons (ce_var 0) (ca_cons (ce_int) (ca_nil)))) (fun _ _ => rfl)) (ca_nil))))) (css_one (cs_if (ct_val (ce_ix C.hu C.hK (ce_var 1) (ce_str) (fun _ _ => rfl))) (css_one (cs_set 4 C.nd nofx0 (ce_ix C.hu C.hK (ce_lst (ca_cons (ce_tup (ca_cons (ce_str) (ca_nil))) (ca_cons (ce_tup (ca_cons (ce_str) (ca_cons (ce_str) (ca_nil)))) (ca_cons (ce_tup (ca_cons (ce_str) (ca_cons (ce_str) (ca_nil)))) (ca_cons (ce_var 4) (ca_nil)))))) (ce_call (w_law_draw T) C (by first | decide | omega) rfl T.g_law_draw T.f_law_draw.kp T.b_law_draw .nil dfl0 (ca_cons (ce_var 0) (ca_cons (ce_int) (ca_nil)))) (fun _ _ => rfl)))) (css_nil)))) (css_nil)) (css_cons (cs_if (ct_cmp op_gt om_gt (ce_var 3) (ce_int) (by rfl)) (css_cons (cs_set 5 C.nd nofx0 (ce_call (w_law_params T) C (by first | decide | omega) rfl T.g_law_params T.f_law_params.kp T.b_law_params .nil dfl0 (ca_cons (ce_var 0) (ca_cons (ce_var 1) (ca_nil))))) (css_one (cs_set 4 C.nd nofx0 (ce_tup (ca_cons (ce_str) (ca_cons (ce_var 5) (ca_cons (ce_call (ih.2.2.2.2.2) C (by first | decide | omega) rfl T.g_law_block T.f_law_block.kp T.b_law_block .nil dfl0 (ca_cons (ce_var 0) (ca_cons (ce_var 1) (ca_cons (ce_op oo_add om_add (ce_var 2) (ce_int)) (ca_nil))))) (ca_nil)))))))) (css_nil)) (css_one (cs_ret (ce_call (w_law_part T) C (by first | decide | omega) rfl T.g_law_part T.f_law_part.kp T.b_law_part .nil dfl0 (ca_cons (ce_var 1) (ca_cons (ce_var 4) (ca_nil)))))))))))))
theorem wr_law_right (T : Tx P K mg A) (n : Nat) (ih : FnOk P w K mg base (L2.CX P w) (3 + n) A.a_law_things A.d_law_things ["_law_state", "_law_tools_here", "_law_depth"] (spM K (cl A) 3 (r_law_things n .law_things)) ∧ FnOk P w K mg base (L2.CX P w) (3 + n) A.a_law_simple A.d_law_simple ["_law_state", "_law_tools_here", "_law_depth"] (spM K (cl A) 3 (r_law_things n .law_simple)) ∧ FnOk P w K mg base (L2.CX P w) (3 + n) A.a_law_right A.d_law_right ["_law_state", "_law_tools_here", "_law_depth"] (spM K (cl A) 3 (r_law_things n .law_right)) ∧ FnOk P w K mg base (L2.CX P w) (3 + n) A.a_law_test A.d_law_test ["_law_state", "_law_tools_here", "_law_depth", "_law_levels"] (spM K (cl A) 4 (r_law_things n .law_test)) ∧ FnOk P w K mg base (L2.CX P w) (3 + n) A.a_law_statement A.d_law_statement ["_law_state", "_law_tools_here", "_law_depth"] (spM K (cl A) 3 (r_law_things n .law_statement)) ∧ FnOk P w K mg base (L2.CX P w) (3 + n) A.a_law_block A.d_law_block ["_law_state", "_law_tools_here", "_law_depth"] (spM K (cl A) 3 (r_law_things n .law_block))) : FnOk P w K mg base (L2.CX P w) (3 + (n + 1)) A.a_law_right A.d_law_right ["_law_state", "_law_tools_here", "_law_depth"] (spM K (cl A) 3 (r_law_things (n + 1) .law_right)) := by
  show FnOk P w K mg base (L2.CX P w) (3 + n + 1) A.a_law_right A.d_law_right ["_law_state", "_law_tools_here", "_law_depth"] (spM K (cl A) 3 (mFn 3 5 (b_law_right (r_law_things n))))
  refine fn_ok T.f_law_right sc_law_right rfl rfl fun cdv Ar outer sh H E C => ?_
  unfold b_law_right
  exact css_cons (cs_set 3 C.nd nofx0 (ce_call (w_law_draw T) C (by first | decide | omega) rfl T.g_law_draw T.f_law_draw.kp T.b_law_draw .nil dfl0 (ca_cons (ce_var 0) (ca_cons (ce_int) (ca_nil))))) (css_cons (cs_if (ct_cmp (oo_eq C.hu) om_eq (ce_var 3) (ce_int) (by rfl)) (css_cons (cs_set 4 C.nd nofx0 (ce_call (ih.2.1) C (by first | decide | omega) rfl T.g_law_simple T.f_law_simple.kp T.b_law_simple .nil dfl0 (ca_cons (ce_var 0) (ca_cons (ce_var 1) (ca_cons (ce_var 2) (ca_nil)))))) (css_one (cs_ret (ce_call (w_law_part T) C (by first | decide | omega) rfl T.g_law_part T.f_law_part.kp T.b_law_part .nil dfl0 (ca_cons (ce_var 1) (ca_cons (ce_tup (ca_cons (ce_str) (ca_cons (ce_var 4) (ca_cons (ce_call (ih.1) C (by first | decide | omega) rfl T.g_law_things T.f_law_things.kp T.b_law_things .nil dfl0 (ca_cons (ce_var 0) (ca_cons (ce_var 1) (ca_cons (ce_var 2) (ca_nil))))) (ca_nil))))) (ca_nil))))))) (css_nil)) (css_cons (cs_if (ct_cmp (oo_eq C.hu) om_eq (ce_var 3) (ce_int) (by rfl)) (css_cons (cs_set 4 C.nd nofx0 (ce_call (ih.2.1) C (by first | decide | omega) rfl T.g_law_simple T.f_law_simple.kp T.b_law_simple .nil dfl0 (ca_cons (ce_var 0) (ca_cons (ce_var 1) (ca_cons (ce_var 2) (ca_nil)))))) (css_one (cs_ret (ce_call (w_law_part T) C (by first | decide | omega) rfl T.g_law_part T.f_law_part.kp T.b_law_part .nil dfl0 (ca_cons (ce_var 1) (ca_cons (ce_tup (ca_cons (ce_str) (ca_cons (ce_var 4) (ca_cons (ce_call (w_law_name T) C (by first | decide | omega) rfl T.g_law_name T.f_law_name.kp T.b_law_name .nil dfl0 (ca_cons (ce_var 0) (ca_nil))) (ca_cons (ce_call (ih.1) C (by first | decide | omega) rfl T.g_law_things T.f_law_things.kp T.b_law_things .nil dfl0 (ca_cons (ce_var 0) (ca_cons (ce_var 1) (ca_cons (ce_var 2) (ca_nil))))) (ca_nil)))))) (ca_nil))))))) (css_nil)) (css_cons (cs_if (PW.pt (cw_and (ct_cmp (oo_eq C.hu) om_eq (ce_var 3) (ce_int) (by rfl)) (cw_and1 (ct_val (ce_ix C.hu C.hK (ce_var 1) (ce_str) (fun _ _ => rfl)))))) (css_one (cs_ret (ce_call (w_law_part T) C (by first | decide | omega) rfl T.g_law_part T.f_law_part.kp T.b_law_part .nil dfl0 (ca_cons (ce_var 1) (ca_cons (ce_tup (ca_cons (ce_str) (ca_cons (ce_call (w_law_name T) C (by first | decide | omega) rfl T.g_law_name T.f_law_name.kp T.b_law_name .nil dfl0 (ca_cons (ce_var 0) (ca_nil))) (ca_cons (ce_call (ih.1) C (by first | decide | omega) rfl T.g_law_things T.f_law_things.kp T.b_law_things .nil dfl0 (ca_cons (ce_var 0) (ca_cons (ce_var 1) (ca_cons (ce_var 2) (ca_nil))))) (ca_nil))))) (ca_nil)))))) (css_nil)) (css_one (cs_ret (ce_call (ih.2.1) C (by first | decide | omega) rfl T.g_law_simple T.f_law_simple.kp T.b_law_simple .nil dfl0 (ca_cons (ce_var 0) (ca_cons (ce_var 1) (ca_cons (ce_var 2) (ca_nil))))))))))
theorem wr_law_test (T : Tx P K mg A) (n : Nat) (ih : FnOk P w K mg base (L2.CX P w) (3 + n) A.a_law_things A.d_law_things ["_law_state", "_law_tools_here", "_law_depth"] (spM K (cl A) 3 (r_law_things n .law_things)) ∧ FnOk P w K mg base (L2.CX P w) (3 + n) A.a_law_simple A.d_law_simple ["_law_state", "_law_tools_here", "_law_depth"] (spM K (cl A) 3 (r_law_things n .law_simple)) ∧ FnOk P w K mg base (L2.CX P w) (3 + n) A.a_law_right A.d_law_right ["_law_state", "_law_tools_here", "_law_depth"] (spM K (cl A) 3 (r_law_things n .law_right)) ∧ FnOk P w K mg base (L2.CX P w) (3 + n) A.a_law_test A.d_law_test ["_law_state", "_law_tools_here", "_law_depth", "_law_levels"] (spM K (cl A) 4 (r_law_things n .law_test)) ∧ FnOk P w K mg base (L2.CX P w) (3 + n) A.a_law_statement A.d_law_statement ["_law_state", "_law_tools_here", "_law_depth"] (spM K (cl A) 3 (r_law_things n .law_statement)) ∧ FnOk P w K mg base (L2.CX P w) (3 + n) A.a_law_block A.d_law_block ["_law_state", "_law_tools_here", "_law_depth"] (spM K (cl A) 3 (r_law_things n .law_block))) : FnOk P w K mg base (L2.CX P w) (3 + (n + 1)) A.a_law_test A.d_law_test ["_law_state", "_law_tools_here", "_law_depth", "_law_levels"] (spM K (cl A) 4 (r_law_things (n + 1) .law_test)) := by
  show FnOk P w K mg base (L2.CX P w) (3 + n + 1) A.a_law_test A.d_law_test ["_law_state", "_law_tools_here", "_law_depth", "_law_levels"] (spM K (cl A) 4 (mFn 4 7 (b_law_test (r_law_things n))))
  refine fn_ok T.f_law_test sc_law_test rfl rfl fun cdv Ar outer sh H E C => ?_
  unfold b_law_test
  exact css_cons (cs_set 4 C.nd nofx0 (ce_call (w_law_draw T) C (by first | decide | omega) rfl T.g_law_draw T.f_law_draw.kp T.b_law_draw .nil dfl0 (ca_cons (ce_var 0) (ca_cons (ce_int) (ca_nil))))) (css_cons (cs_if (PW.pt (cw_or (ct_cmp (oo_eq C.hu) om_eq (ce_var 3) (ce_int) (by rfl)) (cw_or (ct_cmp (oo_eq C.hu) om_eq (ce_var 4) (ce_int) (by rfl)) (cw_or1 (ct_cmp op_le om_le (ce_ix C.hu C.hK (ce_var 1) (ce_str) (fun _ _ => rfl)) (ce_int) (by rfl)))))) (css_cons (cs_set 5 C.nd nofx0 (ce_call (ih.2.1) C (by first | decide | omega) rfl T.g_law_simple T.f_law_simple.kp T.b_law_simple .nil dfl0 (ca_cons (ce_var 0) (ca_cons (ce_var 1) (ca_cons (ce_var 2) (ca_nil)))))) (css_one (cs_ret (ce_call (w_law_part T) C (by first | decide | omega) rfl T.g_law_part T.f_law_part.kp T.b_law_part .nil dfl0 (ca_cons (ce_var 1) (ca_cons (ce_tup (ca_cons (ce_str) (ca_cons (ce_var 5) (ca_cons (ce_call (ih.2.1) C (by first | decide | omega) rfl T.g_law_simple T.f_law_simple.kp T.b_law_simple .nil dfl0 (ca_cons (ce_var 0) (ca_cons (ce_var 1) (ca_cons (ce_var 2) (ca_nil))))) (ca_nil))))) (ca_nil))))))) (css_nil)) (css_cons (cs_set 5 C.nd nofx0 (ce_call (ih.2.2.2.1) C (by first | decide | omega) rfl T.g_law_test T.f_law_test.kp T.b_law_test .nil dfl0 (ca_cons (ce_var 0) (ca_cons (ce_var 1) (ca_cons (ce_var 2) (ca_cons (ce_op op_sub om_sub (ce_var 3) (ce_int)) (ca_nil))))))) (css_cons (cs_if (ct_cmp (oo_eq C.hu) om_eq (ce_var 4) (ce_int) (by rfl)) (css_one (cs_ret (ce_call (w_law_part T) C (by first | decide | omega) rfl T.g_law_part T.f_law_part.kp T.b_law_part .nil dfl0 (ca_cons (ce_var 1) (ca_cons (ce_tup (ca_cons (ce_str) (ca_cons (ce_var 5) (ca_nil)))) (ca_nil)))))) (css_nil)) (css_cons (cs_set 6 C.nd nofx0 (ce_call (ih.2.2.2.1) C (by first | decide | omega) rfl T.g_law_test T.f_law_test.kp T.b_law_test .nil dfl0 (ca_cons (ce_var 0) (ca_cons (ce_var 1) (ca_cons (ce_var 2) (ca_cons (ce_op op_sub om_sub (ce_var 3) (ce_int)) (ca_nil))))))) (css_one (cs_ret (ce_call (w_law_part T) C (by first | decide | omega) rfl T.g_law_part T.f_law_part.kp T.b_law_part .nil dfl0 (ca_cons (ce_var 1) (ca_cons (ce_tup (ca_cons (ce_ix C.hu C.hK (ce_lst (ca_cons (ce_str) (ca_cons (ce_str) (ca_nil)))) (ce_op op_sub om_sub (ce_var 4) (ce_int)) (fun _ _ => rfl)) (ca_cons (ce_var 5) (ca_cons (ce_var 6) (ca_nil))))) (ca_nil))))))))))
theorem wr_law_statement (T : Tx P K mg A) (n : Nat) (ih : FnOk P w K mg base (L2.CX P w) (3 + n) A.a_law_things A.d_law_things ["_law_state", "_law_tools_here", "_law_depth"] (spM K (cl A) 3 (r_law_things n .law_things)) ∧ FnOk P w K mg base (L2.CX P w) (3 + n) A.a_law_simple A.d_law_simple ["_law_state", "_law_tools_here", "_law_depth"] (spM K (cl A) 3 (r_law_things n .law_simple)) ∧ FnOk P w K mg base (L2.CX P w) (3 + n) A.a_law_right A.d_law_right ["_law_state", "_law_tools_here", "_law_depth"] (spM K (cl A) 3 (r_law_things n .law_right)) ∧ FnOk P w K mg base (L2.CX P w) (3 + n) A.a_law_test A.d_law_test ["_law_state", "_law_tools_here", "_law_depth", "_law_levels"] (spM K (cl A) 4 (r_law_things n .law_test)) ∧ FnOk P w K mg base (L2.CX P w) (3 + n) A.a_law_statement A.d_law_statement ["_law_state", "_law_tools_here", "_law_depth"] (spM K (cl A) 3 (r_law_things n .law_statement)) ∧ FnOk P w K mg base (L2.CX P w) (3 + n) A.a_law_block A.d_law_block ["_law_state", "_law_tools_here", "_law_depth"] (spM K (cl A) 3 (r_law_things n .law_block))) : FnOk P w K mg base (L2.CX P w) (3 + (n + 1)) A.a_law_statement A.d_law_statement ["_law_state", "_law_tools_here", "_law_depth"] (spM K (cl A) 3 (r_law_things (n + 1) .law_statement)) := by
  show FnOk P w K mg base (L2.CX P w) (3 + n + 1) A.a_law_statement A.d_law_statement ["_law_state", "_law_tools_here", "_law_depth"] (spM K (cl A) 3 (mFn 3 5 (b_law_statement (r_law_things n))))
  refine fn_ok T.f_law_statement sc_law_statement rfl rfl fun cdv Ar outer sh H E C => ?_
  unfold b_law_statement
  exact css_cons (cs_set 3 C.nd nofx0 (ce_call (w_law_draw T) C (by first | decide | omega) rfl T.g_law_draw T.f_law_draw.kp T.b_law_draw .nil dfl0 (ca_cons (ce_var 0) (ca_cons (ce_int) (ca_nil))))) (css_cons (cs_if (ct_cmp op_gt om_gt (ce_var 2) (ce_int) (by rfl)) (css_one (cs_set 3 C.nd nofx0 (ce_op oo_add om_add (ce_int) (ce_op op_modN om_mod (ce_var 3) (ce_int))))) (css_nil)) (css_cons (cs_if (ct_cmp op_lt om_lt (ce_var 3) (ce_int) (by rfl)) (css_one (cs_set 4 C.nd nofx0 (ce_op oo_add om_add (ce_tup (ca_cons (ce_ix C.hu C.hK (ce_lst (ca_cons (ce_str) (ca_cons (ce_str) (ca_nil)))) (ce_var 3) (fun _ _ => rfl)) (ca_cons (ce_call (ih.2.2.2.1) C (by first | decide | omega) rfl T.g_law_test T.f_law_test.kp T.b_law_test .nil dfl0 (ca_cons (ce_var 0) (ca_cons (ce_var 1) (ca_cons (ce_var 2) (ca_cons (ce_int) (ca_nil)))))) (ca_cons (ce_tup (ca_nil)) (ca_nil))))) (ce_op oo_mulT om_mulT (ce_tup (ca_cons (ce_tup (ca_nil)) (ca_nil))) (ce_op op_sub om_sub (ce_int) (ce_var 3)))))) (css_one (cs_if (ct_cmp op_lt om_lt (ce_var 3) (ce_int) (by rfl)) (css_one (cs_set 4 C.nd nofx0 (ce_tup (ca_cons (ce_ix C.hu C.hK (ce_lst (ca_cons (ce_str) (ca_cons (ce_str) (ca_nil)))) (ce_op op_sub om_sub (ce_var 3) (ce_int)) (fun _ _ => rfl)) (ca_cons (ce_call (w_law_name T) C (by first | decide | omega) rfl T.g_law_name T.f_law_name.kp T.b_law_name .nil dfl0 (ca_cons (ce_var 0) (ca_nil))) (ca_cons (ce_call (ih.2.2.1) C (by first | decide | omega) rfl T.g_law_right T.f_law_right.kp T.b_law_right .nil dfl0 (ca_cons (ce_var 0) (ca_cons (ce_var 1) (ca_cons (ce_var 2) (ca_nil))))) (ca_nil))))))) (css_one (cs_if (ct_cmp (oo_eq C.hu) om_eq (ce_var 3) (ce_int) (by rfl)) (css_one (cs_set 4 C.nd nofx0 (ce_tup (ca_cons (ce_str) (ca_cons (ce_call (ih.2.1) C (by first | decide | omega) rfl T.g_law_simple T.f_law_simple.kp T.b_law_simple .nil dfl0 (ca_cons (ce_var 0) (ca_cons (ce_var 1) (ca_cons (ce_var 2) (ca_nil))))) (ca_nil)))))) (css_one (cs_if (PW.pt (cw_and (ct_cmp (oo_eq C.hu) om_eq (ce_var 3) (ce_int) (by rfl)) (cw_and1 (ct_val (ce_ix C.hu C.hK (ce_var 1) (ce_str) (fun _ _ => rfl)))))) (css_one (cs_set 4 C.nd nofx0 (ce_tup (ca_cons (ce_str) (ca_cons (ce_ix C.hu C.hK (ce_lst (ca_cons (ce_str) (ca_cons (ce_str) (ca_nil)))) (ce_call (w_law_draw T) C (by first | decide | omega) rfl T.g_law_draw T.f_law_draw.kp T.b_law_draw .nil dfl0 (ca_cons (ce_var 0) (ca_cons (ce_int) (ca_nil)))) (fun _ _ => rfl)) (ca_cons (ce_call (ih.2.2.1) C (by first | decide | omega) rfl T.g_law_right T.f_law_right.kp T.b_law_right .nil dfl0 (ca_cons (ce_var 0) (ca_cons (ce_var 1) (ca_cons (ce_var 2) (ca_nil))))) (ca_nil))))))) (css_one (cs_if (PW.pt (cw_and (ct_cmp (oo_eq C.hu) om_eq (ce_var 3) (ce_int) (by rfl)) (cw_and1 (PW.pt (cw_or (ct_val (ce_ix C.hu C.hK (ce_var 1) (ce_str) (fun _ _ => rfl))) (cw_or1 (ct_cmp op_gt om_gt (ce_var 2) (ce_int) (by rfl)))))))) (css_one (cs_set 4 C.nd nofx0 (ce_tup (ca_cons (ce_str) (ca_cons (ce_call (ih.2.2.1) C (by first | decide | omega) rfl T.g_law_right T.f_law_right.kp T.b_law_right .nil dfl0 (ca_cons (ce_var 0) (ca_cons (ce_var 1) (ca_cons (ce_var 2) (ca_nil))))) (ca_nil)))))) (css_one (cs_set 4 C.nd nofx0 (ce_tup (ca_cons (ce_ix C.hu C.hK (ce_lst (ca_cons (ce_str) (ca_cons (ce_str) (ca_nil)))) (ce_call (w_law_draw T) C (by first | decide | omega) rfl T.g_law_draw T.f_law_draw.kp T.b_law_draw .nil dfl0 (ca_cons (ce_var 0) (ca_cons (ce_int) (ca_nil)))) (fun _ _ => rfl)) (ca_cons (ce_call (ih.2.2.1) C (by first | decide | omega) rfl T.g_law_right T.f_law_right.kp T.b_law_right .nil dfl0 (ca_cons (ce_var 0) (ca_cons (ce_var 1) (ca_cons (ce_var 2) (ca_nil))))) (ca_nil))))))))))))))) (css_one (cs_ret (ce_call (w_law_part T) C (by first | decide | omega) rfl T.g_law_part T.f_law_part.kp T.b_law_part .nil dfl0 (ca_cons (ce_var 1) (ca_cons (ce_var 4) (ca_nil))))))))
theorem wr_law_block (T : Tx P K mg A) (n : Nat) (ih : FnOk P w K mg base (L2.CX P w) (3 + n) A.a_law_things A.d_law_things ["_law_state", "_law_tools_here", "_law_depth"] (spM K (cl A) 3 (r_law_things n .law_things)) ∧ FnOk P w K mg base (L2.CX P w) (3 + n) A.a_law_simple A.d_law_simple ["_law_state", "_law_tools_here", "_law_depth"] (spM K (cl A) 3 (r_law_things n .law_simple)) ∧ FnOk P w K mg base (L2.CX P w) (3 + n) A.a_law_right A.d_law_right ["_law_state", "_law_tools_here", "_law_depth"] (spM K (cl A) 3 (r_law_things n .law_right)) ∧ FnOk P w K mg base (L2.CX P w) (3 + n) A.a_law_test A.d_law_test ["_law_state", "_law_tools_here", "_law_depth", "_law_levels"] (spM K (cl A) 4 (r_law_things n .law_test)) ∧ FnOk P w K mg base (L2.CX P w) (3 + n) A.a_law_statement A.d_law_statement ["_law_state", "_law_tools_here", "_law_depth"] (spM K (cl A) 3 (r_law_things n .law_statement)) ∧ FnOk P w K mg base (L2.CX P w) (3 + n) A.a_law_block A.d_law_block ["_law_state", "_law_tools_here", "_law_depth"] (spM K (cl A) 3 (r_law_things n .law_block))) : FnOk P w K mg base (L2.CX P w) (3 + (n + 1)) A.a_law_block A.d_law_block ["_law_state", "_law_tools_here", "_law_depth"] (spM K (cl A) 3 (r_law_things (n + 1) .law_block)) := by
  show FnOk P w K mg base (L2.CX P w) (3 + n + 1) A.a_law_block A.d_law_block ["_law_state", "_law_tools_here", "_law_depth"] (spM K (cl A) 3 (mFn 3 5 (b_law_block (r_law_things n))))
  refine fn_ok T.f_law_block sc_law_block rfl rfl fun cdv Ar outer sh H E C => ?_
  unfold b_law_block
  exact css_cons (cs_set 3 C.nd nofx0 (ce_int)) (css_cons (cs_if (ct_cmp op_gt om_gt (ce_ix C.hu C.hK (ce_var 1) (ce_str) (fun _ _ => rfl)) (ce_int) (by rfl)) (css_one (cs_set 3 C.nd nofx0 (ce_op oo_add om_add (ce_call (w_law_draw T) C (by first | decide | omega) rfl T.g_law_draw T.f_law_draw.kp T.b_law_draw .nil dfl0 (ca_cons (ce_var 0) (ca_cons (ce_int) (ca_nil)))) (ce_callTy call_int1 cm_int rfl T.n_int (by first | boot_by_name | rfl | kernel_rfl) (ca_cons (ce_cmp (oo_eq C.hu) om_eq (ce_var 2) (ce_int) (by rfl)) (ca_nil)))))) (css_nil)) (css_one (cs_ret (ce_callTy call_tuple_of cm_tuple rfl T.n_tuple (by first | boot_by_name | rfl | kernel_rfl) (ca_cons (ce_lc (own := [("_law_k", 4)]) C nofxs (bc_name nofx0 (by decide)) (blkOk_by (N := ["_law_state", "_law_tools_here", "_law_depth", "_law_many", "_law_k"]) (sc := defScope (top 51)) (by decide +kernel)) (ci_rng1 rfl T.n_range (ca_cons (ce_var 3) (ca_nil))) (fun _ _ _ _ _ => pg_name (i := 4) C.nd rfl (Or.inl rfl)) (fun _ _ _ _ _ C => cpts_nil) (fun _ _ _ _ _ C => ce_call (ih.2.2.2.2.1) C (by first | decide | omega) rfl T.g_law_statement T.f_law_statement.kp T.b_law_statement .nil dfl0 (ca_cons (ce_var 0) (ca_cons (ce_var 1) (ca_cons (ce_var 2) (ca_nil)))))) (ca_nil))))))
theorem wa_law_things (T : Tx P K mg A) : ∀ n : Nat, FnOk P w K mg base (L2.CX P w) (3 + n) A.a_law_things A.d_law_things ["_law_state", "_law_tools_here", "_law_depth"] (spM K (cl A) 3 (r_law_things n .law_things)) ∧ FnOk P w K mg base (L2.CX P w) (3 + n) A.a_law_simple A.d_law_simple ["_law_state", "_law_tools_here", "_law_depth"] (spM K (cl A) 3 (r_law_things n .law_simple)) ∧ FnOk P w K mg base (L2.CX P w) (3 + n) A.a_law_right A.d_law_right ["_law_state", "_law_tools_here", "_law_depth"] (spM K (cl A) 3 (r_law_things n .law_right)) ∧ FnOk P w K mg base (L2.CX P w) (3 + n) A.a_law_test A.d_law_test ["_law_state", "_law_tools_here", "_law_depth", "_law_levels"] (spM K (cl A) 4 (r_law_things n .law_test)) ∧ FnOk P w K mg base (L2.CX P w) (3 + n) A.a_law_statement A.d_law_statement ["_law_state", "_law_tools_here", "_law_depth"] (spM K (cl A) 3 (r_law_things n .law_statement)) ∧ FnOk P w K mg base (L2.CX P w) (3 + n) A.a_law_block A.d_law_block ["_law_state", "_law_tools_here", "_law_depth"] (spM K (cl A) 3 (r_law_things n .law_block))
  | 0 => ⟨fn_stuck, fn_stuck, fn_stuck, fn_stuck, fn_stuck, fn_stuck⟩
  | n + 1 => ⟨wr_law_things T n (wa_law_things T n), wr_law_simple T n (wa_law_things T n), wr_law_right T n (wa_law_things T n), wr_law_test T n (wa_law_things T n), wr_law_statement T n (wa_law_things T n), wr_law_block T n (wa_law_things T n)⟩
theorem w_law_things (T : Tx P K mg A) : FnOk P w K mg base (L2.CX P w) 83 A.a_law_things A.d_law_things ["_law_state", "_law_tools_here", "_law_depth"] (spM K (cl A) 3 m_law_things) := (wa_law_things T 80).1
theorem w_law_simple (T : Tx P K mg A) : FnOk P w K mg base (L2.CX P w) 83 A.a_law_simple A.d_law_simple ["_law_state", "_law_tools_here", "_law_depth"] (spM K (cl A) 3 m_law_simple) := (wa_law_things T 80).2.1
theorem w_law_right (T : Tx P K mg A) : FnOk P w K mg base (L2.CX P w) 83 A.a_law_right A.d_law_right ["_law_state", "_law_tools_here", "_law_depth"] (spM K (cl A) 3 m_law_right) := (wa_law_things T 80).2.2.1
theorem w_law_test (T : Tx P K mg A) : FnOk P w K mg base (L2.CX P w) 83 A.a_law_test A.d_law_test ["_law_state", "_law_tools_here", "_law_depth", "_law_levels"] (spM K (cl A) 4 m_law_test) := (wa_law_things T 80).2.2.2.1
theorem w_law_statement (T : Tx P K mg A) : FnOk P w K mg base (L2.CX P w) 83 A.a_law_statement A.d_law_statement ["_law_state", "_law_tools_here", "_law_depth"] (spM K (cl A) 3 m_law_statement) := (wa_law_things T 80).2.2.2.2.1
theorem w_law_block (T : Tx P K mg A) : FnOk P w K mg base (L2.CX P w) 83 A.a_law_block A.d_law_block ["_law_state", "_law_tools_here", "_law_depth"] (spM K (cl A) 3 m_law_block) := (wa_law_things T 80).2.2.2.2.2
theorem sc_Program___init__ : FnScope ["self", "classes", "body", "part"] ["self", "classes", "body"] (defScope (inClass (top 35) 0)) := ⟨rfl, rfl, rfl, by decide +kernel, rfl, by decide +kernel, by decide +kernel⟩
theorem w_Program___init__ (T : Tx P K mg A) : FnOk P w K mg base (L2.CX P w) 86 A.a_Program___init__ A.d_Program___init__ ["self", "classes", "body"] (spM K (cl A) 3 m_Program___init__) := by
  refine fn_ok T.f_Program___init__ sc_Program___init__ rfl rfl fun cdv Ar outer sh H E C => ?_
  unfold b_Program___init__
  exact css_cons (cs_set 3 C.nd nofx0 (ce_call (w_bad_part T) C (by first | decide | omega) rfl T.g_bad_part T.f_bad_part.kp T.b_bad_part .nil dfl0 (ca_cons (ce_var 1) (ca_cons (ce_var 2) (ca_nil))))) (css_cons (cs_if (ct_notN (ce_var 3)) (css_one (cs_raise (err_BadProgram T) C (by decide) rfl (ce_var 3))) (css_nil)) (css_cons (cs_fld C.hK (fok_held_ok T) (ce_var 0) (ce_call (w_copied_classes T) C (by first | decide | omega) rfl T.g_copied_classes T.f_copied_classes.kp T.b_copied_classes .nil dfl0 (ca_cons (ce_var 1) (ca_nil)))) (css_one (cs_fld C.hK (fok_body_ok T) (ce_var 0) (ce_var 2)))))
theorem sc_Program_classes : FnScope ["self"] ["self"] (defScope (inClass (top 35) 1)) := ⟨rfl, rfl, rfl, by decide +kernel, rfl, by decide +kernel, by decide +kernel⟩
theorem w_Program_classes (T : Tx P K mg A) : FnOk P w K mg base (L2.CX P w) 3 A.a_Program_classes A.d_Program_classes ["self"] (spM K (cl A) 1 m_Program_classes) := by
  refine fn_ok T.f_Program_classes sc_Program_classes rfl rfl fun cdv Ar outer sh H E C => ?_
  unfold b_Program_classes
  exact css_one (cs_ret (ce_call (w_copied_classes T) C (by first | decide | omega) rfl T.g_copied_classes T.f_copied_classes.kp T.b_copied_classes .nil dfl0 (ca_cons (ce_fld C.hK (fok_held_ok T) (ce_var 0)) (ca_nil))))
theorem sc_law : FnScope ["_law_script", "_law_state", "_law_tools_here", "_law_block_here", "_law_classes", "_law_body", "_law_part_here", "_law_made", "_law_refused", "e"] ["_law_script"] (defScope (top 52)) := ⟨rfl, rfl, rfl, by decide +kernel, rfl, by decide +kernel, by decide +kernel⟩
theorem w_law (T : Tx P K mg A) : FnOk P w K mg base (L2.CX P w) 88 A.a_law A.d_law ["_law_script"] (spM K (cl A) 1 m_law) := by
  refine fn_ok T.f_law sc_law rfl rfl fun cdv Ar outer sh H E C => ?_
  unfold b_law
  exact css_cons (cs_set 1 C.nd nofx0 (ce_call (w_law_start T) C (by first | decide | omega) rfl T.g_law_start T.f_law_start.kp T.b_law_start .nil dfl0 (ca_cons (ce_var 0) (ca_nil)))) (css_cons (cs_set 2 C.nd nofx0 (ce_call (w_law_tools T) C (by first | decide | omega) rfl T.g_law_tools T.f_law_tools.kp T.b_law_tools .nil dfl0 (ca_cons (ce_var 1) (ca_nil)))) (css_cons (cs_set 3 C.nd nofx0 (ce_call (w_law_block T) C (by first | decide | omega) rfl T.g_law_block T.f_law_block.kp T.b_law_block .nil dfl0 (ca_cons (ce_var 1) (ca_cons (ce_var 2) (ca_cons (ce_int) (ca_nil)))))) (css_cons (cs_set 4 C.nd nofx0 (ce_disp (cp_cons (ce_str) (ce_tup (ca_cons (ce_non) (ca_cons (ce_str) (ca_cons (ce_disp (cp_cons (ce_str) (ce_tup (ca_cons (ce_str) (ca_nil))) cp_nil)) (ca_cons (ce_dict0) (ca_nil)))))) (cp_cons (ce_str) (ce_tup (ca_cons (ce_str) (ca_cons (ce_str) (ca_cons (ce_disp (cp_cons (ce_str) (ce_tup (ca_cons (ce_str) (ca_cons (ce_str) (ca_nil)))) (cp_cons (ce_str) (ce_tup (ca_cons (ce_str) (ca_nil))) cp_nil))) (ca_cons (ce_dict0) (ca_nil)))))) cp_nil)))) (css_cons (cs_set 5 C.nd nofx0 (ce_var 3)) (css_cons (cs_set 6 C.nd nofx0 (ce_str)) (css_cons (cs_if (ct_val (ce_ix C.hu C.hK (ce_var 2) (ce_str) (fun _ _ => rfl))) (css_cons (cs_store (os_any C.hu) sm_any (ce_tup (ca_cons (ce_tup (ca_cons (ce_str) (ca_nil))) (ca_cons (ce_var 3) (ca_nil)))) (ce_ix C.hu C.hK (ce_ix C.hu C.hK (ce_var 4) (ce_str) (fun _ _ => rfl)) (ce_int) (fun _ _ => rfl)) (ce_str)) (css_cons (cs_set 5 C.nd nofx0 (ce_tup (ca_nil))) (css_one (cs_set 6 C.nd nofx0 (ce_str))))) (css_nil)) (css_cons (cs_set 7 C.nd nofx0 (ce_non)) (css_cons (cs_set 8 C.nd nofx0 (ce_non)) (css_cons (cs_tryAs C rfl rfl rfl rfl ⟨rfl, by decide, .inl T.g_BadProgram⟩ nofx0 (ctch_BadProgram_ok T) (fun _ _ _ C => css_one (cs_set 7 C.nd nofx0 (ce_make T.mk_Program (w_Program___init__ T) C (by first | decide | omega) rfl rfl T.g_Program T.b_Program___init__ .nil dfl0 (ca_cons (ce_var 4) (ca_cons (ce_var 5) (ca_nil)))))) (fun a oe cls d pn c hz hf => css_one (cs_set 8 C.nd (nofxS (by decide) nofx0) (ce_xf C.hK rfl T.xf_BadProgram T.no_BadProgram hz hf rfl)))) (css_cons (cs_if (ct_val (ce_ix C.hu C.hK (ce_var 2) (ce_str) (fun _ _ => rfl))) (css_one (cs_ret (ce_and (ce_isN (ce_var 7)) (ce_one (ce_cmp (oo_eq C.hu) om_eq (ce_var 8) (ce_var 6) (by rfl)))))) (css_nil)) (css_one (cs_ret (ce_and (ce_isN (ce_var 8)) (ce_and (ce_cmp (oo_eq C.hu) om_eq (ce_fld C.hK (fok_body_ok T) (ce_var 7)) (ce_var 5) (by rfl)) (ce_one (ce_cmp (oo_eq C.hu) om_eq (ce_prop (ce_var 7) (w_Program_classes T) C (by first | decide | omega) rfl T.cls_Program T.pr_Program_classes T.b_Program_classes) (ce_var 4) (by rfl)))))))))))))))))
end
end Mkk02
local macro_rules | `(tactic| fail "ml") => `(tactic| first
  | (with_reducible refine Mi.Wp.op2 Mi.in_two ?_)
  | (with_reducible refine Mi.Wp.op2 Mi.notIn_two ?_)
  | ((with_reducible refine' Mi.Wp.op2 (f := Mi.eqD) ?mi_e ?_); case mi_e => rfl)
  | ((with_reducible refine' Mi.Wp.op2 (f := Mi.neD) ?mi_e ?_); case mi_e => rfl)
  | ((with_reducible refine' Mi.Wp.op2 (f := Mi.addD) ?mi_e ?_); case mi_e => rfl)
  | ((with_reducible refine' Mi.Wp.op2 (f := Mi.subD) ?mi_e ?_); case mi_e => rfl)
  | ((with_reducible refine' Mi.Wp.op2 (f := Mi.ltD) ?mi_e ?_); case mi_e => rfl)
  | ((with_reducible refine' Mi.Wp.op2 (f := Mi.leD) ?mi_e ?_); case mi_e => rfl)
  | ((with_reducible refine' Mi.Wp.op2 (f := Mi.gtD) ?mi_e ?_); case mi_e => rfl)
  | ((with_reducible refine' Mi.Wp.op2 (f := Mi.geD) ?mi_e ?_); case mi_e => rfl)
  | ((with_reducible refine' Mi.Wp.op2 (f := Mi.powD) ?mi_e ?_); case mi_e => rfl)
  | ((with_reducible refine' Mi.Wp.op2 (f := Mi.mulD) ?mi_e ?_); case mi_e => rfl)
  | ((with_reducible refine' Mi.Wp.op2 (f := Mi.fdivD) ?mi_e ?_); case mi_e => rfl)
  | ((with_reducible refine' Mi.Wp.op2 (f := Mi.modD) ?mi_e ?_); case mi_e => rfl)
  | ((with_reducible refine' Mi.Wp.op2 (f := Mi.inD) ?mi_e ?_); case mi_e => rfl)
  | ((with_reducible refine' Mi.Wp.op2 (f := Mi.notInD) ?mi_e ?_); case mi_e => rfl)
  | ((with_reducible refine' Mi.Wp.op2 (f := Mi.ixD) ?mi_e ?_); case mi_e => first | rfl | exact Mi.ix_lst (by assumption) (by rfl) | exact Mi.ix_t0 | exact Mi.ix_t1 | exact Mi.ix_t2 | exact Mi.ix_t3)
  | ((with_reducible refine' Mi.Wp.op1 (f := Mi.fmtD) ?mi_e ?_); case mi_e => rfl)
  | ((with_reducible refine' Mi.Wp.op1 (f := Mi.negD) ?mi_e ?_); case mi_e => rfl)
  | ((with_reducible refine' Mi.Wp.op1 (f := Mi.isND) ?mi_e ?_); case mi_e => rfl)
  | ((with_reducible refine' Mi.Wp.op1 (f := Mi.notND) ?mi_e ?_); case mi_e => rfl)
  | ((with_reducible refine' Mi.Wp.opL (f := Mi.lenD) ?mi_e ?_); case mi_e => first | rfl | exact Mi.len_lst (by assumption))
  | ((with_reducible refine' Mi.Wp.opL (f := Mi.intD) ?mi_e ?_); case mi_e => rfl)
  | ((with_reducible refine' Mi.Wp.opL (f := Mi.strD) ?mi_e ?_); case mi_e => rfl)
  | ((with_reducible refine' Mi.Wp.bt ?mi_e ?_); case mi_e => rfl)
  | ((with_reducible refine' Mi.Wp.bf ?mi_e ?_); case mi_e => rfl)
  | ((with_reducible refine' Mi.Wp.var ?mi_e ?_); case mi_e => rfl)
  | (with_reducible refine Mi.Wp.bf (Mi.len_eq_f (by simp only [List.length_cons]; omega)) ?_)
  | (with_reducible refine Mi.Wp.bt (Mi.len_ne_t (by simp only [List.length_cons]; omega)) ?_)
  | ((with_reducible refine' Exists.intro ?_ (And.intro ?mi_e ?_)); case mi_e => rfl)
  | ((with_reducible refine' And.intro ?mi_e ?_); case mi_e => first | rfl | exact Nat.le_of_ble_eq_true rfl)
  | ((with_reducible refine' Mi.Wp.isE ?mi_e ?_); case mi_e => rfl)
  | ((with_reducible refine' Mi.Wp.xf ?mi_e ?_); case mi_e => rfl)
  | ((with_reducible refine' Mi.Wp.ok (Mi.fld_ins ?mi_e ?mi_k ?mi_l) ?_); (case mi_e => assumption); (case mi_k => rfl); (case mi_l => rfl))
  | ((with_reducible refine' Exists.intro _ (Exists.intro _ (And.intro ?mi_r (And.intro ?mi_e ?_)))); (case mi_r => rfl); (case mi_e => assumption)))
local macro_rules | `(tactic| fail "mi") => `(tactic| with_reducible first
  | refine Mi.Wp.fn ?_ | refine Mi.Wp.seq ?_ | refine Mi.Wp.nx ?_ | refine Mi.Wp.rt ?_ | refine Mi.Wp.if_ ?_ | refine Mi.Wp.c ?_ | refine Mi.Wp.m2 ?_ | refine Mi.Wp.m1 ?_ | refine Mi.Wp.b ?_ | refine Mi.Wp.asB ?_ | refine Mi.Wp.and ?_ | refine Mi.Wp.or ?_ | refine Mi.Wp.not ?_ | refine Mi.Wp.andV ?_ | refine Mi.Wp.orV ?_ | refine Mi.Wp.notV ?_ | refine Mi.Wp.iteE ?_ | refine Mi.Wp.chain ?_ | refine Mi.Wp.nilA ?_ | refine Mi.Wp.consA ?_ | refine Mi.Wp.tup ?_ | refine Mi.Wp.lst ?_ | refine Mi.Wp.dict0 ?_ | refine Mi.Wp.noPart ?_ | refine Mi.Wp.part ?_ | refine Mi.Wp.sl ?_ | refine Mi.Wp.callB ?_ | refine Mi.Wp.meth ?_ | refine Mi.Wp.is ?_ | refine Mi.Wp.joinNil ?_ | refine Mi.Wp.joinCons ?_ | refine Mi.Wp.join ?_ | refine Mi.Wp.call0 ?_ | refine Mi.Wp.call ?_ | refine Mi.Wp.skip ?_ | refine Mi.Wp.brk ?_ | refine Mi.Wp.cnt ?_ | refine Mi.Wp.drop ?_ | refine Mi.Wp.ret ?_ | refine Mi.Wp.retN ?_ | refine Mi.Wp.asgN ?_ | refine Mi.Wp.asg ?_ | refine Mi.Wp.store ?_ | refine Mi.Wp.itV ?_ | refine Mi.Wp.rng1 ?_ | refine Mi.Wp.yes ?_ | refine Mi.Wp.fld ?_ | refine Mi.Wp.fst ?_ | refine Mi.Wp.methP0 ?_ | refine Mi.Wp.methP ?_ | refine Mi.Wp.make0 ?_ | refine Mi.Wp.make ?_ | refine Mi.Wp.prop ?_ | refine Mi.Wp.walk ?_ | refine Mi.Wp.enumT ?_ | refine Mi.Wp.augS ?_ | refine Mi.Wp.pairsNil ?_ | refine Mi.Wp.pairsCons ?_ | refine Mi.Wp.disp ?_ | refine Mi.fnK.rt ?_ | refine Mi.fnK.nx ?_ | refine Mi.turnK.nx ?_ | refine Mi.turnK.rt ?_ | refine Mi.turnK.bk ?_ | refine Mi.turnK.ct ?_)
local macro_rules | `(tactic| fail "go") => `(tactic| repeat first | fail "mi" | fail "ml")
namespace Mkk02
open PySem Mi
theorem mix_eqB {n k : Int} {S : So} : Wp (m_law_mix [.int n, .int k] S) (fun r S' => (∃ z : Int, r = .int z) ∧ S' = S) := by
  unfold m_law_mix b_law_mix
  fail "go"
  refine Wp.op2 (mul_r (by decide)) ?_
  fail "go"
  refine Wp.op2 (mul_l (fm_b _)) ?_
  fail "go"
  refine Wp.op2 (mul_l (fm_b _)) ?_
  fail "go"
  exact ⟨⟨_, rfl⟩, rfl⟩
theorem gix_lst {S : So} {n : Nat} {ds : List D} {i : Int} {z : D} (h : S[n]? = some (.lst ds)) (hz : L2.atI ds i = some z) : gixO S (.ref n) (.int i) = some z := by
  unfold gixO vw
  simp only [h, hz]
theorem draw_eq {s t : Nat} {many : Int} {S : So} (h : StB s t S) (h1 : 1 ≤ many) (h2 : many < 1073741824) : Wp (m_law_draw [.ref s, .int many] S) (DrawnB s t many S) := by
  obtain ⟨cs, i, c, d, h⟩ := h
  have hne : many ≠ 0 := by omega
  have hab : many.natAbs < 1073741824 := by omega
  unfold m_law_draw b_law_draw
  refine Wp.fn ?_
  refine Wp.seq (Wp.mono (Q := fun p S' => p = (.nx, [some (.ref s), some (.int many), some (.ref t), none, none]) ∧ S' = S) (by
    have hs := h.at_
    fail "go"
    rfl) ?_)
  rintro _ S ⟨rfl, rfl⟩
  refine Wp.nx ?_
  refine Wp.seq (Wp.mono (Q := fun p S' => p = (.nx, [some (.ref s), some (.int many), some (.ref t), none, none]) ∧ Keep s S S' ∧ ∃ i c, SrcB s t cs i c d S') ?_ ?_)
  · have hs := h.at_
    have ht := h.cl
    fail "go"
    refine ⟨fun hc => ?_, fun hc => ?_⟩
    · fail "go"
      refine ⟨fun hc2 => ?_, fun hc2 => ?_⟩
      · fail "go"
        obtain ⟨z, hz⟩ := cell_at (cs := cs) h.i0 (of_decide_eq_true hc2)
        refine Wp.op2 (ix_lst ht hz) ?_
        fail "go"
        refine ⟨fun hc3 => ?_, fun hc3 => ?_⟩
        · fail "go"
          refine Wp.op2 (ix_lst ht hz) ?_
          fail "go"
          obtain ⟨S1, e1, g1, k1⟩ := srcB2 (x := z) h
          refine Wp.ok e1 ?_
          have hs1 := g1.at_
          fail "go"
          refine ⟨.int i, gix_lst hs1 rfl, ?_⟩
          fail "go"
          refine Wp.ok rfl ?_
          obtain ⟨S2, e2, g2, k2⟩ := srcB1 (x := i + 1) g1 (by have := h.i0; omega)
          refine Wp.ok e2 ?_
          exact ⟨rfl, k1.trans k2, _, _, g2⟩
        · fail "go"
          exact ⟨Keep.refl, _, _, h⟩
      · fail "go"
        exact ⟨Keep.refl, _, _, h⟩
    · fail "go"
      exact ⟨Keep.refl, _, _, h⟩
  rintro _ S1 ⟨rfl, k1, i, c, h⟩
  refine Wp.nx ?_
  have hs := h.at_
  have ht := h.cl
  fail "go"
  refine ⟨fun hc => ?_, fun hc => ?_⟩
  · fail "go"
    refine Wp.op2 (mod_ok hne) ?_
    fail "go"
    refine Wp.op2 (fdiv_ok hne hab) ?_
    fail "go"
    obtain ⟨S2, e2, g2, k2⟩ := srcB2 (x := c.fdiv many) h
    refine Wp.ok e2 ?_
    fail "go"
    exact ⟨⟨_, _, _, _, g2⟩, k1.trans k2, _, rfl, fmod_in h1⟩
  · refine Wp.skip ?_
    refine Wp.nx ?_
    refine Wp.seq (Wp.mono (Q := fun p S' => p = (.nx, [some (.ref s), some (.int many), some (.ref t), none, some (.int i)]) ∧ S' = S1) (by
      fail "go"
      rfl) ?_)
    rintro _ S1 ⟨rfl, rfl⟩
    refine Wp.nx ?_
    refine Wp.seq (Wp.mono (Q := fun p S' => (∃ y : Int, p = (.nx, [some (.ref s), some (.int many), some (.ref t), none, some (.int y)])) ∧ S' = S1) (by
      fail "go"
      refine ⟨fun hc2 => ?_, fun hc2 => ?_⟩
      · fail "go"
        obtain ⟨z, hz⟩ := cell_at (cs := cs) h.i0 (of_decide_eq_true hc2)
        refine Wp.op2 (ix_lst ht hz) ?_
        fail "go"
        exact ⟨⟨_, rfl⟩, rfl⟩
      · fail "go"
        exact ⟨⟨_, rfl⟩, rfl⟩) ?_)
    rintro _ S1 ⟨⟨y, rfl⟩, rfl⟩
    fail "go"
    refine ⟨.int i, gix_lst hs rfl, ?_⟩
    fail "go"
    refine Wp.ok rfl ?_
    obtain ⟨S2, e2, g2, k2⟩ := srcB1 (x := i + 1) h (by have := h.i0; omega)
    refine Wp.ok e2 ?_
    have hs2 := g2.at_
    fail "go"
    refine mix_eqB.mono ?_
    rintro _ S' ⟨⟨z, rfl⟩, rfl⟩
    fail "go"
    obtain ⟨S3, e3, g3, k3⟩ := srcB3 (x := z) g2
    refine Wp.ok e3 ?_
    have hs3 := g3.at_
    fail "go"
    refine Wp.op2 (mod_ok hne) ?_
    fail "go"
    exact ⟨⟨_, _, _, _, g3⟩, k1.trans (k2.trans k3), _, rfl, fmod_in h1⟩
theorem start_eq {ns : List Int} (h : ns.length ≤ 63) : Wp (m_law_start [.frl (ns.map D.int)] []) (fun r S' => r = .ref 2 ∧ StB 2 1 S' ∧ S'.length = 3) := by
  unfold m_law_start b_law_start
  fail "go"
  refine Wp.ok rfl ?_
  fail "go"
  refine Wp.ok rfl ?_
  fail "go"
  have hc : cutD (ns.map D.int) none (some 63) = ns.map D.int := by
    refine cut_all ⟨rfl, ?_⟩
    rw [List.length_map]
    show (if (63 : Int) < 0 then ((63 : Int) + (ns.length : Int)).toNat else min (63 : Int).toNat ns.length) = ns.length
    rw [if_neg (by decide)]
    show min 63 ns.length = ns.length
    omega
  exact ⟨⟨ns, 0, 0, 5, ⟨rfl, by rw [hc]; rfl, by decide, by decide⟩⟩, rfl⟩
/-- one of a few, drawn -/
theorem pick_eq {s t i : Nat} {ρ : Ro} {S : So} {ds : List D} {mr : MA} {n : Int} {Q : D → So → Prop} (hm : mr ρ S = .ok ds S) (hρ : ρ[i]? = some (some (.ref s))) (hst : StB s t S) (hn : (ds.length : Int) = n) (h1 : 1 ≤ n) (h2 : n < 1000)
    (hQ : ∀ z S', z ∈ ds → StB s t S' → Grw s S S' → Q z S') : Wp (m2 ixD (mLst mr) (mCall m_law_draw 2 [] (mConsA (mVar i) (mConsA (mC (.int n)) (mNilA)))) ρ S) Q := by
  refine Wp.m2 ?_
  refine Wp.lst ?_
  refine Wp.ok hm ?_
  refine ⟨by have : lim = 100000 := rfl; omega, ?_⟩
  refine Wp.call0 ?_
  refine Wp.consA ?_
  refine Wp.var hρ ?_
  fail "go"
  refine (draw_eq (t := t) hst.app h1 (by omega)).mono ?_
  rintro _ S' ⟨a, k, j, rfl, j0, j1⟩
  have hs : s < S.length := hst.lt.1
  have hat : S'[S.length]? = some (.lst ds) := by
    rw [k.2 _ (by omega)]
    exact last_at
  obtain ⟨j, rfl⟩ := Int.eq_ofNat_of_zero_le j0
  have hj : j < ds.length := by omega
  have hz : L2.atI ds (j : Int) = some ds[j] := by
    unfold L2.atI L2.ixN
    rw [if_pos (Int.natCast_nonneg j), if_pos (by omega)]
    simp [hj]
  refine Wp.op2 (ix_lst hat hz) ?_
  exact hQ _ _ (List.getElem_mem hj) a (Grw.trans Grw.app (Grw.keep k))
theorem pick_at {s t : Nat} {S : So} {ds : List D} {n : Int} {Q : D → So → Prop} (hst : StB s t S) (hn : (ds.length : Int) = n) (h1 : 1 ≤ n) (h2 : n < 1000)
    (hQ : ∀ z S', z ∈ ds → StB s t S' → Grw s S S' → Q z S') : Wp (m_law_draw [.ref s, .int n] (S ++ [.lst ds])) fun e S2 => Wp (ixD (.ref S.length) e S2) Q := by
  refine (draw_eq (t := t) hst.app h1 (by omega)).mono ?_
  rintro _ S' ⟨a, k, j, rfl, j0, j1⟩
  have hs : s < S.length := hst.lt.1
  have hat : S'[S.length]? = some (.lst ds) := by
    rw [k.2 _ (by omega)]
    exact last_at
  obtain ⟨j, rfl⟩ := Int.eq_ofNat_of_zero_le j0
  have hj : j < ds.length := by omega
  have hz : L2.atI ds (j : Int) = some ds[j] := by
    unfold L2.atI L2.ixN
    rw [if_pos (Int.natCast_nonneg j), if_pos (by omega)]
    simp [hj]
  refine Wp.op2 (ix_lst hat hz) ?_
  exact hQ _ _ (List.getElem_mem hj) a (Grw.trans Grw.app (Grw.keep k))
theorem draw_at {s t : Nat} {S : So} {n : Int} {Q : D → So → Prop} (hst : StB s t S) (h1 : 1 ≤ n) (h2 : n < 1000) (hQ : ∀ (k : Int) S', 0 ≤ k → k < n → StB s t S' → Keep s S S' → Q (.int k) S') : Wp (m_law_draw [.ref s, .int n] S) Q := by
  refine (draw_eq (t := t) hst h1 (by omega)).mono ?_
  rintro _ S' ⟨a, k, j, rfl, j0, j1⟩
  exact hQ j S' j0 j1 a k
theorem draw_call {s t i : Nat} {ρ : Ro} {S : So} {n : Int} {Q : D → So → Prop} (hρ : ρ[i]? = some (some (.ref s))) (hst : StB s t S) (h1 : 1 ≤ n) (h2 : n < 1000)
    (hQ : ∀ (k : Int) S', 0 ≤ k → k < n → StB s t S' → Keep s S S' → Q (.int k) S') : Wp (mCall m_law_draw 2 [] (mConsA (mVar i) (mConsA (mC (.int n)) (mNilA))) ρ S) Q := by
  refine Wp.call0 ?_
  refine Wp.consA ?_
  refine Wp.var hρ ?_
  fail "go"
  refine (draw_eq (t := t) hst h1 (by omega)).mono ?_
  rintro _ S' ⟨a, k, j, rfl, j0, j1⟩
  exact hQ j S' j0 j1 a k
end Mkk02
namespace Mkk02
open PySem Mi
theorem name_eq {d : D} {S : So} (h : okD S d) : Wp (m_is_name [d] S) (fun r S' => r = .bl (nameB d) ∧ S' = S) := by
  unfold m_is_name b_is_name
  cases d with
  | str x =>
    have hx : x.length ≤ lim := h
    fail "go"
    refine Wp.opL (len_str hx) ?_
    fail "go"
    refine ⟨fun h0 => ?_, fun h0 => ?_⟩
    · have h0 : 1 ≤ x.length := by
        have := of_decide_eq_true h0
        omega
      fail "go"
      refine ⟨fun h1 => ?_, fun h1 => ?_⟩
      · have h1 : ¬ x.length ≤ 8 := by
          have : decide ((x.length : Int) ≤ 8) = false := by simpa using h1
          have := of_decide_eq_false this
          omega
        fail "go"
        simp [nameB, nameS, h0, h1]
      · have h1 : x.length ≤ 8 := by
          have : decide ((x.length : Int) ≤ 8) = true := by simpa using h1
          have := of_decide_eq_true this
          omega
        fail "go"
        refine Wp.forV ?_
        fail "go"
        refine .inr (.inl ⟨x, rfl, chD x, rfl, fun i ρ S' => S' = S ∧ (x.cps.toList.take i).all lowB = true ∧ ∃ o, ρ = [some (.str x), o], ?_, ?_, ?_⟩)
        · exact ⟨rfl, by simp, _, rfl⟩
        · rintro i d ρ S' hd ⟨rfl, ha, o, rfl⟩
          refine ⟨_, rfl, ?_⟩
          unfold chD at hd
          rw [List.getElem?_map] at hd
          cases hc : x.cps.toList[i]? with
          | none => rw [hc] at hd; cases hd
          | some c =>
            rw [hc] at hd
            cases hd
            fail "go"
            refine ⟨fun h2 => ?_, fun h2 => ?_⟩
            · have h2 : lowB c = false := by simpa [lowB] using h2
              fail "go"
              have hall : x.cps.toList.all lowB = false := by
                rw [List.all_eq_false]
                exact ⟨c, List.mem_of_getElem? hc, by simp [h2]⟩
              simp [nameB, nameS, hall]
            · have h2 : lowB c = true := by simpa [lowB] using h2
              fail "go"
              refine ⟨?_, _, rfl⟩
              rw [List.take_add_one, hc]
              simp [List.all_append, ha, h2]
        · rintro ρ S' ⟨rfl, ha, o, rfl⟩
          fail "go"
          have ha : x.cps.toList.all lowB = true := by
            have hlen : (chD x).length = x.cps.toList.length := by simp [chD]
            rw [hlen, List.take_length] at ha
            exact ha
          simp [nameB, nameS, h0, h1, ha]
    · have h0 : ¬ 1 ≤ x.length := by
        have := of_decide_eq_false h0
        omega
      fail "go"
      simp [nameB, nameS, h0]
  | ref n =>
    obtain ⟨t, ht⟩ := h.ty
    fail "go"
    refine ⟨t, ht, ?_⟩
    rcases ref_ty ht with rfl | rfl
    · fail "go"
      rfl
    · fail "go"
      rfl
  | _ =>
    fail "go"
    rfl
theorem cut_take {ds : List D} {i : Nat} (h : i ≤ ds.length) : cutD ds none (some (i : Int)) = ds.take i := by
  unfold cutD HT.sIx
  have : ¬ ((i : Int) < 0) := by omega
  simp [this]
theorem names_go {S : So} (N : Nat) (ds : List D) (ho : okL S ds) : ∀ (k i : Nat) (l : List Str), i + k = ds.length → ds.take i = l.map .str → l.length = i → ∀ a b, 
    Wp (forGo (.vals (enumL 0 ds)) (bT [2, 3]) (mIf (mOr (mNot (mB (mCall m_is_name 1 [] (mConsA (mVar 3) (mNilA))))) (mB (m2 inD (mVar 3) (mSl (mVar 0) (mNoPart) (mPart (mVar 2)))))) (mRet (mC (.bl false))) (mSkip)) k i [some (.tup ds), some (.int N), a, b] S)
      (fun p S' => S' = S ∧ ((p.1 = .nx ∧ namesL l (ds.drop i) = true) ∨ (p.1 = .rt (.bl false) ∧ namesL l (ds.drop i) = false)))
  | 0, i, l, e, hl, hn, a, b => by
    unfold forGo
    have h1 : (enumL 0 ds)[i]? = none := by
      rw [enumL_get]
      have : ds[i]? = none := List.getElem?_eq_none (by omega)
      rw [this]
      rfl
    simp only [IT.at, h1]
    refine ⟨rfl, .inl ⟨rfl, ?_⟩⟩
    rw [List.drop_eq_nil_of_le (by omega)]
    rfl
  | k + 1, i, l, e, hl, hn, a, b => by
    have hi : i < ds.length := by omega
    have h1 : (enumL 0 ds)[i]? = some (.tup [.int ((i : Nat) : Int), ds[i]]) := by
      rw [enumL_get, List.getElem?_eq_getElem hi, Nat.zero_add]
      rfl
    have hdrop : ds.drop i = ds[i] :: ds.drop (i + 1) := List.drop_eq_getElem_cons hi
    have hmem : okD S ds[i] := by
      have : ∀ (l : List D), okL S l → ∀ x ∈ l, okD S x := by
        intro l
        induction l with
        | nil => intro _ x hx; cases hx
        | cons y r ih =>
          intro h x hx
          unfold okL at h
          rcases List.mem_cons.mp hx with rfl | hx
          · exact h.1
          · exact ih h.2 x hx
      exact this _ ho _ (List.getElem_mem hi)
    unfold forGo
    simp only [IT.at, h1, bT, bL]
    refine Wp.bind ?_
    generalize hd : ds[i] = d at *
    have w : Wp ((mIf (mOr (mNot (mB (mCall m_is_name 1 [] (mConsA (mVar 3) (mNilA))))) (mB (m2 inD (mVar 3) (mSl (mVar 0) (mNoPart) (mPart (mVar 2)))))) (mRet (mC (.bl false))) (mSkip)) [some (.tup ds), some (.int N), some (.int (i : Int)), some d] S)
        (fun p S' => S' = S ∧ p.2 = [some (.tup ds), some (.int N), some (.int (i : Int)), some d] ∧ ((p.1 = .nx ∧ ∃ x, d = .str x ∧ nameS x = true ∧ l.contains x = false) ∨ (p.1 = .rt (.bl false) ∧ namesL l (d :: ds.drop (i + 1)) = false))) := by
      fail "go"
      refine (name_eq hmem).mono ?_
      rintro r S' ⟨rfl, rfl⟩
      fail "go"
      refine ⟨fun h2 => ?_, fun h2 => ?_⟩
      · have h2 : nameB d = false := by simpa using h2
        fail "go"
        refine .inr ⟨rfl, ?_⟩
        cases d <;> simp_all [namesL, nameB]
      · have h2 : nameB d = true := by simpa using h2
        cases d with
        | str x =>
          fail "go"
          have hs : slD (.tup ds) none (some (i : Int)) S' = .ok (.tup (l.map .str)) S' := by
            unfold slD vw
            simp only [cut_take (Nat.le_of_lt hi), hl]
          refine Wp.ok hs ?_
          fail "go"
          refine Wp.op2 in_strs ?_
          fail "go"
          refine ⟨fun h3 => ?_, fun h3 => ?_⟩
          · fail "go"
            refine .inr ⟨rfl, ?_⟩
            have h3' : x ∈ l := by simpa using h3
            simp [namesL, h3']
          · fail "go"
            exact .inl ⟨rfl, x, rfl, h2, h3⟩
        | _ => simp [nameB] at h2
    refine w.mono ?_
    rintro ⟨f, ρ'⟩ S' ⟨rfl, rfl, h⟩
    rcases h with ⟨rfl, x, rfl, h2, h3⟩ | ⟨rfl, h2⟩
    · refine (names_go N ds ho k (i + 1) (l ++ [x]) (by omega) ?_ (by simp [hn]) _ _).mono ?_
      · rw [List.take_add_one, List.getElem?_eq_getElem hi, hl, hd]
        simp
      · rintro p S2 ⟨rfl, h⟩
        refine ⟨rfl, ?_⟩
        have hc : namesL l (ds.drop i) = namesL (l ++ [x]) (ds.drop (i + 1)) := by
          rw [hdrop]
          simp only [namesL, h2, h3, Bool.not_false, Bool.true_and]
        rw [hc]
        exact h
    · refine ⟨rfl, .inr ⟨rfl, ?_⟩⟩
      rw [hdrop]
      exact h2
theorem names_eq {d : D} {S : So} {N : Nat} (h : okD S d) : Wp (m_are_names [d, .int N] S) (fun r S' => r = .bl (namesB N d) ∧ S' = S) := by
  unfold m_are_names b_are_names
  cases d with
  | tup ds =>
    fail "go"
    refine ⟨fun h1 => ?_, fun h1 => ?_⟩
    · have h1 : ¬ ds.length ≤ N := by
        have := of_decide_eq_true h1
        omega
      fail "go"
      simp [namesB, h1]
    · have h1 : ds.length ≤ N := by
        have := of_decide_eq_false h1
        omega
      fail "go"
      refine Wp.bind ?_
      refine Wp.bind ?_
      fail "go"
      have hl : (IT.vals (enumL 0 ds)).len S = ds.length := by
        show (enumL 0 ds).length = ds.length
        have : ∀ (l : List D) (n : Nat), (enumL n l).length = l.length := by
          intro l
          induction l with
          | nil => intro n; rfl
          | cons y r ih => intro n; simp [enumL, ih]
        exact this _ _
      show Wp (forGo (.vals (enumL 0 ds)) (bT [2, 3]) _ ((IT.vals (enumL 0 ds)).len S) 0 _ S) _
      rw [hl]
      refine (names_go N ds (by unfold okD at h; exact h) ds.length 0 [] (by omega) (by simp) rfl _ _).mono ?_
      rintro ⟨f, ρ'⟩ S' ⟨rfl, h2⟩
      simp only [List.drop_zero] at h2
      rcases h2 with ⟨rfl, h2⟩ | ⟨rfl, h2⟩
      · fail "go"
        simp [namesB, h1, h2]
      · fail "go"
        simp [namesB, h2]
  | ref n =>
    obtain ⟨t, ht⟩ := h.ty
    fail "go"
    refine ⟨t, ht, ?_⟩
    rcases ref_ty ht with rfl | rfl
    · fail "go"
      rfl
    · fail "go"
      rfl
  | _ =>
    fail "go"
    rfl
theorem names_eq3 {d : D} {S : So} (h : okD S d) : Wp (m_are_names [d, .int 3] S) (fun r S' => r = .bl (namesB 3 d) ∧ S' = S) := names_eq (N := 3) h
theorem names_eq4 {d : D} {S : So} (h : okD S d) : Wp (m_are_names [d, .int 4] S) (fun r S' => r = .bl (namesB 4 d) ∧ S' = S) := names_eq (N := 4) h
end Mkk02
namespace Mkk02
open PySem Mi
def headS : D → Str
  | .tup (.str h :: _) => h
  | _ => ""
theorem head_eq {d : D} {S : So} (h : okD S d) : Wp (m_head [d] S) (fun r S' => r = .str (headS d) ∧ S' = S) := by
  unfold m_head b_head
  cases d with
  | tup ds =>
    cases ds with
    | nil =>
      fail "go"
      rfl
    | cons x ds =>
      unfold okD okL at h
      obtain ⟨t, ht, hs⟩ := h.1.isStr
      fail "go"
      refine ⟨fun h1 => ?_, fun h1 => ?_⟩
      · fail "go"
        refine ⟨t, ht, ?_⟩
        rw [hs]
        cases x with
        | str y =>
          fail "go"
          rfl
        | _ =>
          fail "go"
          rfl
      · have h1 := of_decide_eq_false h1
        simp only [List.length_cons] at h1
        omega
  | ref n =>
    obtain ⟨t, ht⟩ := h.ty
    fail "go"
    refine ⟨t, ht, ?_⟩
    rcases ref_ty ht with rfl | rfl
    · fail "go"
      rfl
    · fail "go"
      rfl
  | _ =>
    fail "go"
    rfl
/-! the place -/
theorem hf_eq {pl : Pl} {p : Nat} {d : D} {S : So} (hp : Plc S p pl) (h : okD S d) : Wp (m_Place_has_field [.ref p, d] S) (fun r S' => r = .bl (pl.fld d) ∧ S' = S) := by
  unfold m_Place_has_field b_Place_has_field
  obtain ⟨fs, hq, kn, mr⟩ := pl
  have hp : S[p]? = some (.ins "Place" [("fields", encN fs), ("has_parent", .bl hq), ("known", encN kn), ("may_return", .bl mr)]) := hp
  cases fs with
  | none =>
    fail "go"
    cases d <;> exact ⟨rfl, rfl⟩
  | some l =>
    fail "go"
    refine (name_eq h).mono ?_
    rintro _ _ ⟨rfl, rfl⟩
    fail "go"
    refine ⟨fun h1 => ?_, fun h1 => ?_⟩
    · cases d with
      | str x =>
        fail "go"
        refine Wp.op2 in_strs ?_
        fail "go"
        have h1 : nameS x = true := h1
        simp [Pl.fld, h1]
      | _ => cases h1
    · fail "go"
      cases d with
      | str x =>
        have h1 : nameS x = false := h1
        simp [Pl.fld, h1]
      | _ => exact ⟨rfl, rfl⟩
theorem hc_eq {pl : Pl} {p : Nat} {d : D} {S : So} (hp : Plc S p pl) (h : okD S d) : Wp (m_Place_has_class [.ref p, d] S) (fun r S' => r = .bl (pl.kls d) ∧ S' = S) := by
  unfold m_Place_has_class b_Place_has_class
  obtain ⟨fs, hq, kn, mr⟩ := pl
  have hp : S[p]? = some (.ins "Place" [("fields", encN fs), ("has_parent", .bl hq), ("known", encN kn), ("may_return", .bl mr)]) := hp
  fail "go"
  refine (name_eq h).mono ?_
  rintro _ _ ⟨rfl, rfl⟩
  fail "go"
  refine ⟨fun h1 => ?_, fun h1 => ?_⟩
  · cases d with
    | str x =>
      have h1 : nameS x = true := h1
      cases kn with
      | none =>
        fail "go"
        simp [Pl.kls, h1]
      | some l =>
        fail "go"
        refine Wp.op2 in_strs ?_
        fail "go"
        simp [Pl.kls, h1]
    | _ => cases h1
  · fail "go"
    cases d with
    | str x =>
      have h1 : nameS x = false := h1
      cases kn <;> simp [Pl.kls, h1]
    | _ => exact ⟨rfl, rfl⟩
theorem place_eq {fs kn : Option (List Str)} {hq mr : Bool} {S : So} : Wp (m_Place___init__ [.ref S.length, encN fs, .bl hq, encN kn, .bl mr] (S ++ [.ins "Place" []])) (fun r S' => r = .non ∧ S' = S ++ [(⟨fs, hq, kn, mr⟩ : Pl).obj]) := by
  unfold m_Place___init__ b_Place___init__
  have set_last : ∀ (o o' : O), (S ++ [o]).set S.length o' = S ++ [o'] := fun o o' => by
    rw [List.set_append_right _ _ (Nat.le_refl _)]
    simp
  fail "go"
  refine Wp.ok (fst_ins last_at rfl (by decide)) ?_
  rw [set_last]
  fail "go"
  refine Wp.ok (fst_ins last_at rfl (Nat.le_of_ble_eq_true rfl)) ?_
  rw [set_last]
  fail "go"
  refine Wp.ok (fst_ins last_at rfl (Nat.le_of_ble_eq_true rfl)) ?_
  rw [set_last]
  fail "go"
  refine Wp.ok (fst_ins last_at rfl (Nat.le_of_ble_eq_true rfl)) ?_
  rw [set_last]
  exact ⟨rfl, rfl⟩
theorem within_eq {pl : Pl} {p : Nat} {S : So} (hp : Plc S p pl) : Wp (m_Place_within_function [.ref p] S) (fun r S' => r = .ref S.length ∧ S' = S ++ [pl.inner.obj]) := by
  unfold m_Place_within_function b_Place_within_function
  obtain ⟨fs, hq, kn, mr⟩ := pl
  have hp : S[p]? = some (.ins "Place" [("fields", encN fs), ("has_parent", .bl hq), ("known", encN kn), ("may_return", .bl mr)]) := hp
  fail "go"
  refine place_eq.mono ?_
  rintro _ _ ⟨rfl, rfl⟩
  exact ⟨rfl, rfl, rfl⟩
/-! the family -/
abbrev SpM (m : MF) (f : Pl → Int → D → Bool) (c : Int) (n : Nat) : Prop := ∀ (pl : Pl) (p : Nat) (S0 S : So) (k : Int) (d : D), Ext S0 S → Plc S0 p pl → okD S0 d → k ≤ 8 → 6 * (8 - k) + c ≤ n →
  Wp (m [d, .ref p, .int k] S) (fun r S' => r = .bl (f pl k d) ∧ Ext S0 S')
abbrev SpT (m : MF) (n : Nat) : Prop := ∀ (pl : Pl) (p : Nat) (S0 S : So) (k : Int) (l : Int) (d : D), Ext S0 S → Plc S0 p pl → okD S0 d → k ≤ 8 → 0 ≤ l → l ≤ 3 → 6 * (8 - k) + 2 + l ≤ n →
  Wp (m [d, .ref p, .int k, .int l] S) (fun r S' => r = .bl (sT l.toNat pl k d) ∧ Ext S0 S')
/-- what begins with none of the four words -/
abbrev SpH (m : MF) (n : Nat) : Prop := ∀ (pl : Pl) (p : Nat) (S0 S : So) (k : Int) (d : D), Ext S0 S → Plc S0 p pl → okD S0 d → k ≤ 8 → 6 * (8 - k) + 5 ≤ n → (headS d == "if") = false → (headS d == "while") = false → (headS d == "try") = false → (headS d == "last") = false →
  Wp (m [d, .ref p, .int k] S) (fun r S' => r = .bl (sS pl k d) ∧ Ext S0 S')
/-- a block's level may be one more than 8 -/
abbrev SpB (m : MF) (n : Nat) : Prop := ∀ (pl : Pl) (p : Nat) (S0 S : So) (k : Int) (d : D), Ext S0 S → Plc S0 p pl → okD S0 d → k ≤ 9 → 6 * (8 - k) + 7 ≤ n →
  Wp (m [d, .ref p, .int k] S) (fun r S' => r = .bl (sB pl k d) ∧ Ext S0 S')
theorem okD_3 {S : So} {h : Str} {a b c : D} (o : okD S (.tup [.str h, a, b, c])) : okD S a ∧ okD S b ∧ okD S c := by
  simp only [okD, okL] at o
  exact ⟨o.2.1, o.2.2.1, o.2.2.2.1⟩
theorem okD_2 {S : So} {h : Str} {a b : D} (o : okD S (.tup [.str h, a, b])) : okD S a ∧ okD S b := by
  simp only [okD, okL] at o
  exact ⟨o.2.1, o.2.2.1⟩
theorem okD_1 {S : So} {h : Str} {a : D} (o : okD S (.tup [.str h, a])) : okD S a := by
  simp only [okD, okL] at o
  exact o.2.1
theorem sR_no {c : Bool} {pl : Pl} {k : Int} {d : D} (h : ∀ x ds, d ≠ .tup (.str x :: ds)) : sR c pl k d = false ∧ headS d = "" := by
  cases d with
  | tup ds =>
    cases ds with
    | nil => exact ⟨by simp [sR], rfl⟩
    | cons x ds =>
      cases x with
      | str y => exact absurd rfl (h y ds)
      | _ => exact ⟨by simp [sR], rfl⟩
  | _ => exact ⟨by simp [sR], rfl⟩
theorem sT_no {l : Nat} {pl : Pl} {k : Int} {d : D} (h : ∀ x ds, d ≠ .tup (.str x :: ds)) : sT l pl k d = false ∧ sS pl k d = false := by
  cases d with
  | tup ds =>
    cases ds with
    | nil => exact ⟨by simp [sT], by simp [sS]⟩
    | cons x ds =>
      cases x with
      | str y => exact absurd rfl (h y ds)
      | _ => exact ⟨by simp [sT], by simp [sS]⟩
  | _ => exact ⟨by simp [sT], by simp [sS]⟩
theorem head_or (d : D) : (∃ x ds, d = .tup (.str x :: ds)) ∨ ∀ x ds, d ≠ .tup (.str x :: ds) := by
  by_cases h : ∃ x ds, d = .tup (.str x :: ds)
  · exact .inl h
  · exact .inr fun x ds e => h ⟨x, ds, e⟩
end Mkk02
namespace Mkk02
open PySem Mi
theorem st_simple {n : Nat} (ihB : SpB (r_is_simple n .is_block) n) : SpM (r_is_simple (n + 1) .is_simple) (sR false) 2 (n + 1) := by
  intro pl p S0 S k d e hp ho hk hn
  show Wp (mFn 3 4 (b_is_simple (r_is_simple n)) [d, .ref p, .int k] S) _
  unfold b_is_simple
  fail "go"
  refine (head_eq (e.ok ho)).mono ?_
  rintro _ _ ⟨rfl, rfl⟩
  rcases head_or d with ⟨h, ds, rfl⟩ | hd
  rotate_left
  · rw [(sR_no (c := false) (pl := pl) (k := k) hd).2]
    rw [(sR_no hd).1]
    fail "go"
    exact e
  have hh : headS (.tup (.str h :: ds)) = h := rfl
  rw [hh]
  rcases ds with _ | ⟨a, _ | ⟨b, _ | ⟨c, _ | ⟨g, r⟩⟩⟩⟩

  · have hP := hp.ext e
    have hP2 := hP
    unfold Plc Pl.obj at hP2
    repeat' first
      | fail "mi"
      | (with_reducible refine Wp.op2 in_two ?_)
      | fail "ml"
      | (with_reducible refine And.intro (fun hb => ?_) (fun hb => ?_))
      | (with_reducible refine Wp.op1 notN_enc ?_)
      | (with_reducible refine (name_eq (Ext.ok (S := S0) (by assumption) (by assumption))).mono ?_; rintro _ _ ⟨rfl, rfl⟩)
      | (with_reducible refine (names_eq3 (Ext.ok (S := S0) (by assumption) (by assumption))).mono ?_; rintro _ _ ⟨rfl, rfl⟩)
      | (with_reducible refine (hf_eq (pl := pl) (Plc.ext (S0 := S0) (by assumption) (by assumption)) (Ext.ok (S := S0) (by assumption) (by assumption))).mono ?_; rintro _ _ ⟨rfl, rfl⟩)
      | (with_reducible refine (hc_eq (pl := pl) (Plc.ext (S0 := S0) (by assumption) (by assumption)) (Ext.ok (S := S0) (by assumption) (by assumption))).mono ?_; rintro _ _ ⟨rfl, rfl⟩)
      | (with_reducible refine (within_eq (pl := pl) (Plc.ext (S0 := S0) (by assumption) (by assumption))).mono ?_; rintro _ _ ⟨rfl, rfl⟩)
      | (with_reducible refine (ihB pl.inner _ _ _ _ _ Ext.refl plc_last (Ext.ok (S := S0) (Ext.app (by assumption)) (by assumption)) (by omega) (by omega)).mono ?_; rintro _ _ ⟨rfl, e9⟩; have e8 := Ext.trans (Ext.app (T := [pl.inner.obj]) e) e9)
      | (with_reducible refine Exists.intro _ (Exists.intro _ (And.intro rfl (And.intro (Plc.ext (S0 := S0) (by assumption) (by assumption)) ?_))))
    all_goals first | assumption | (refine ⟨?_, by assumption⟩; (try clear ihB); (try clear ihT); (try clear ihR); (try clear ihS); (try clear ihL); (try clear hn); clear hP hP2 hp ho hh; first | rfl | (simp_all (decide := true) [sR]; done) | (simp_all (decide := true) [sR] <;> omega))
  · have hP := hp.ext e
    have hP2 := hP
    unfold Plc Pl.obj at hP2
    have o1 := okD_1 ho
    repeat' first
      | fail "mi"
      | (with_reducible refine Wp.op2 in_two ?_)
      | fail "ml"
      | (with_reducible refine And.intro (fun hb => ?_) (fun hb => ?_))
      | (with_reducible refine Wp.op1 notN_enc ?_)
      | (with_reducible refine (name_eq (Ext.ok (S := S0) (by assumption) (by assumption))).mono ?_; rintro _ _ ⟨rfl, rfl⟩)
      | (with_reducible refine (names_eq3 (Ext.ok (S := S0) (by assumption) (by assumption))).mono ?_; rintro _ _ ⟨rfl, rfl⟩)
      | (with_reducible refine (hf_eq (pl := pl) (Plc.ext (S0 := S0) (by assumption) (by assumption)) (Ext.ok (S := S0) (by assumption) (by assumption))).mono ?_; rintro _ _ ⟨rfl, rfl⟩)
      | (with_reducible refine (hc_eq (pl := pl) (Plc.ext (S0 := S0) (by assumption) (by assumption)) (Ext.ok (S := S0) (by assumption) (by assumption))).mono ?_; rintro _ _ ⟨rfl, rfl⟩)
      | (with_reducible refine (within_eq (pl := pl) (Plc.ext (S0 := S0) (by assumption) (by assumption))).mono ?_; rintro _ _ ⟨rfl, rfl⟩)
      | (with_reducible refine (ihB pl.inner _ _ _ _ _ Ext.refl plc_last (Ext.ok (S := S0) (Ext.app (by assumption)) (by assumption)) (by omega) (by omega)).mono ?_; rintro _ _ ⟨rfl, e9⟩; have e8 := Ext.trans (Ext.app (T := [pl.inner.obj]) e) e9)
      | (with_reducible refine Exists.intro _ (Exists.intro _ (And.intro rfl (And.intro (Plc.ext (S0 := S0) (by assumption) (by assumption)) ?_))))
    all_goals first | assumption | (refine ⟨?_, by assumption⟩; (try clear ihB); (try clear ihT); (try clear ihR); (try clear ihS); (try clear ihL); (try clear hn); clear hP hP2 hp ho hh; first | rfl | (simp_all (decide := true) [sR]; done) | (simp_all (decide := true) [sR] <;> omega))
  · have hP := hp.ext e
    have hP2 := hP
    unfold Plc Pl.obj at hP2
    obtain ⟨o1, o2⟩ := okD_2 ho
    repeat' first
      | fail "mi"
      | (with_reducible refine Wp.op2 in_two ?_)
      | fail "ml"
      | (with_reducible refine And.intro (fun hb => ?_) (fun hb => ?_))
      | (with_reducible refine Wp.op1 notN_enc ?_)
      | (with_reducible refine (name_eq (Ext.ok (S := S0) (by assumption) (by assumption))).mono ?_; rintro _ _ ⟨rfl, rfl⟩)
      | (with_reducible refine (names_eq3 (Ext.ok (S := S0) (by assumption) (by assumption))).mono ?_; rintro _ _ ⟨rfl, rfl⟩)
      | (with_reducible refine (hf_eq (pl := pl) (Plc.ext (S0 := S0) (by assumption) (by assumption)) (Ext.ok (S := S0) (by assumption) (by assumption))).mono ?_; rintro _ _ ⟨rfl, rfl⟩)
      | (with_reducible refine (hc_eq (pl := pl) (Plc.ext (S0 := S0) (by assumption) (by assumption)) (Ext.ok (S := S0) (by assumption) (by assumption))).mono ?_; rintro _ _ ⟨rfl, rfl⟩)
      | (with_reducible refine (within_eq (pl := pl) (Plc.ext (S0 := S0) (by assumption) (by assumption))).mono ?_; rintro _ _ ⟨rfl, rfl⟩)
      | (with_reducible refine (ihB pl.inner _ _ _ _ _ Ext.refl plc_last (Ext.ok (S := S0) (Ext.app (by assumption)) (by assumption)) (by omega) (by omega)).mono ?_; rintro _ _ ⟨rfl, e9⟩; have e8 := Ext.trans (Ext.app (T := [pl.inner.obj]) e) e9)
      | (with_reducible refine Exists.intro _ (Exists.intro _ (And.intro rfl (And.intro (Plc.ext (S0 := S0) (by assumption) (by assumption)) ?_))))
    all_goals first | assumption | (refine ⟨?_, by assumption⟩; (try clear ihB); (try clear ihT); (try clear ihR); (try clear ihS); (try clear ihL); (try clear hn); clear hP hP2 hp ho hh; first | rfl | (simp_all (decide := true) [sR]; done) | (simp_all (decide := true) [sR] <;> omega))
  · have hP := hp.ext e
    have hP2 := hP
    unfold Plc Pl.obj at hP2
    obtain ⟨o1, o2, o3⟩ := okD_3 ho
    repeat' first
      | fail "mi"
      | (with_reducible refine Wp.op2 in_two ?_)
      | fail "ml"
      | (with_reducible refine And.intro (fun hb => ?_) (fun hb => ?_))
      | (with_reducible refine Wp.op1 notN_enc ?_)
      | (with_reducible refine (name_eq (Ext.ok (S := S0) (by assumption) (by assumption))).mono ?_; rintro _ _ ⟨rfl, rfl⟩)
      | (with_reducible refine (names_eq3 (Ext.ok (S := S0) (by assumption) (by assumption))).mono ?_; rintro _ _ ⟨rfl, rfl⟩)
      | (with_reducible refine (hf_eq (pl := pl) (Plc.ext (S0 := S0) (by assumption) (by assumption)) (Ext.ok (S := S0) (by assumption) (by assumption))).mono ?_; rintro _ _ ⟨rfl, rfl⟩)
      | (with_reducible refine (hc_eq (pl := pl) (Plc.ext (S0 := S0) (by assumption) (by assumption)) (Ext.ok (S := S0) (by assumption) (by assumption))).mono ?_; rintro _ _ ⟨rfl, rfl⟩)
      | (with_reducible refine (within_eq (pl := pl) (Plc.ext (S0 := S0) (by assumption) (by assumption))).mono ?_; rintro _ _ ⟨rfl, rfl⟩)
      | (with_reducible refine (ihB pl.inner _ _ _ _ _ Ext.refl plc_last (Ext.ok (S := S0) (Ext.app (by assumption)) (by assumption)) (by omega) (by omega)).mono ?_; rintro _ _ ⟨rfl, e9⟩; have e8 := Ext.trans (Ext.app (T := [pl.inner.obj]) e) e9)
      | (with_reducible refine Exists.intro _ (Exists.intro _ (And.intro rfl (And.intro (Plc.ext (S0 := S0) (by assumption) (by assumption)) ?_))))
    all_goals first | assumption | (refine ⟨?_, by assumption⟩; (try clear ihB); (try clear ihT); (try clear ihR); (try clear ihS); (try clear ihL); (try clear hn); clear hP hP2 hp ho hh; first | rfl | (simp_all (decide := true) [sR]; done) | (simp_all (decide := true) [sR] <;> omega))
  · have hP := hp.ext e
    have hP2 := hP
    unfold Plc Pl.obj at hP2
    repeat' first
      | fail "mi"
      | (with_reducible refine Wp.op2 in_two ?_)
      | fail "ml"
      | (with_reducible refine And.intro (fun hb => ?_) (fun hb => ?_))
      | (with_reducible refine Wp.op1 notN_enc ?_)
      | (with_reducible refine (name_eq (Ext.ok (S := S0) (by assumption) (by assumption))).mono ?_; rintro _ _ ⟨rfl, rfl⟩)
      | (with_reducible refine (names_eq3 (Ext.ok (S := S0) (by assumption) (by assumption))).mono ?_; rintro _ _ ⟨rfl, rfl⟩)
      | (with_reducible refine (hf_eq (pl := pl) (Plc.ext (S0 := S0) (by assumption) (by assumption)) (Ext.ok (S := S0) (by assumption) (by assumption))).mono ?_; rintro _ _ ⟨rfl, rfl⟩)
      | (with_reducible refine (hc_eq (pl := pl) (Plc.ext (S0 := S0) (by assumption) (by assumption)) (Ext.ok (S := S0) (by assumption) (by assumption))).mono ?_; rintro _ _ ⟨rfl, rfl⟩)
      | (with_reducible refine (within_eq (pl := pl) (Plc.ext (S0 := S0) (by assumption) (by assumption))).mono ?_; rintro _ _ ⟨rfl, rfl⟩)
      | (with_reducible refine (ihB pl.inner _ _ _ _ _ Ext.refl plc_last (Ext.ok (S := S0) (Ext.app (by assumption)) (by assumption)) (by omega) (by omega)).mono ?_; rintro _ _ ⟨rfl, e9⟩; have e8 := Ext.trans (Ext.app (T := [pl.inner.obj]) e) e9)
      | (with_reducible refine Exists.intro _ (Exists.intro _ (And.intro rfl (And.intro (Plc.ext (S0 := S0) (by assumption) (by assumption)) ?_))))
    all_goals first | assumption | (refine ⟨?_, by assumption⟩; (try clear ihB); (try clear ihT); (try clear ihR); (try clear ihS); (try clear ihL); (try clear hn); clear hP hP2 hp ho hh; first | rfl | (simp_all (decide := true) [sR]; done) | (simp_all (decide := true) [sR] <;> omega))
end Mkk02
namespace Mkk02
open PySem Mi
theorem sTl_all {pl : Pl} {k : Int} : ∀ ds : List D, sTl pl k ds = ds.all (sR false pl k)
  | [] => by simp [sTl]
  | d :: ds => by simp [sTl, sTl_all ds]
theorem sSl_all {pl : Pl} {k : Int} : ∀ ds : List D, sSl pl k ds = ds.all (sS pl k)
  | [] => by simp [sSl]
  | d :: ds => by simp [sSl, sSl_all ds]
theorem okL_mem {S : So} : ∀ {l : List D}, okL S l → ∀ x ∈ l, okD S x := by
  intro l
  induction l with
  | nil => intro _ x hx; cases hx
  | cons y r ih =>
    intro h x hx
    unfold okL at h
    rcases List.mem_cons.mp hx with rfl | hx
    · exact h.1
    · exact ih h.2 x hx
theorem all_take {α : Type} {f : α → Bool} {l : List α} {i : Nat} {x : α} (hx : l[i]? = some x) (h : (l.take i).all f = true) (hf : f x = true) : (l.take (i + 1)).all f = true := by
  rw [List.take_add_one, hx]
  simp [List.all_append, hf]
  simpa using h
theorem all_no {α : Type} {f : α → Bool} {l : List α} {i : Nat} {x : α} (hx : l[i]? = some x) (hf : f x = false) : l.all f = false := by
  rw [List.all_eq_false]
  exact ⟨x, List.mem_of_getElem? hx, by simp [hf]⟩
theorem st_things {n : Nat} (ihS : SpM (r_is_simple n .is_simple) (sR false) 2 n) : SpM (r_is_simple (n + 1) .are_things) sTs 3 (n + 1) := by
  intro pl p S0 S k d e hp ho hk hn
  show Wp (mFn 3 4 (b_are_things (r_is_simple n)) [d, .ref p, .int k] S) _
  unfold b_are_things
  cases d with
  | tup ds =>
    fail "go"
    refine ⟨fun h1 => ?_, fun h1 => ?_⟩
    · have h1 : ¬ ds.length ≤ 3 := by
        have := of_decide_eq_true h1
        omega
      fail "go"
      exact ⟨by simp [sTs, h1], e⟩
    · have h1 : ds.length ≤ 3 := by
        have := of_decide_eq_false h1
        omega
      fail "go"

      refine Wp.forV ?_
      fail "go"
      refine .inl ⟨ds, .inl rfl, ds, rfl, fun i ρ S' => Ext S0 S' ∧ (ds.take i).all (sR false pl k) = true ∧ ∃ o, ρ = [some (.tup ds), some (.ref p), some (.int k), o], ?_, ?_, ?_⟩
      · exact ⟨e, by simp, _, rfl⟩
      · rintro i d ρ S' hd ⟨e1, ha, o, rfl⟩
        have hmem : okD S0 d := okL_mem (by unfold okD at ho; exact ho) d (List.mem_of_getElem? hd)
        refine ⟨_, rfl, ?_⟩
        fail "go"
        refine (ihS pl p S0 _ _ _ e1 hp hmem (by omega) (by omega)).mono ?_
        rintro _ S2 ⟨rfl, e2⟩
        fail "go"
        refine ⟨fun h2 => ?_, fun h2 => ?_⟩
        · have h2 : sR false pl k d = false := by simpa using h2
          fail "go"
          refine ⟨?_, e2⟩
          rw [sTs, sTl_all, all_no hd h2]
          simp
        · have h2 : sR false pl k d = true := by simpa using h2
          fail "go"
          exact ⟨e2, all_take hd ha h2, _, rfl⟩
      · rintro ρ S' ⟨e1, ha, o, rfl⟩
        rw [List.take_length] at ha
        fail "go"
        refine ⟨?_, e1⟩
        rw [sTs, sTl_all, ha]
        simp [h1]
  | ref m =>
    obtain ⟨t, ht⟩ := (e.ok ho).ty
    fail "go"
    refine ⟨t, ht, ?_⟩
    rcases ref_ty ht with rfl | rfl
    · fail "go"
      first | exact e | exact ⟨by simp [sTs], e⟩
    · fail "go"
      first | exact e | exact ⟨by simp [sTs], e⟩
  | _ =>
    fail "go"
    first | exact e | exact ⟨by simp [sTs], e⟩
theorem st_right {n : Nat} (ihS : SpM (r_is_simple n .is_simple) (sR false) 2 n) (ihL : SpM (r_is_simple n .are_things) sTs 3 n) : SpM (r_is_simple (n + 1) .is_right) (sR true) 4 (n + 1) := by
  intro pl p S0 S k d e hp ho hk hn
  show Wp (mFn 3 4 (b_is_right (r_is_simple n)) [d, .ref p, .int k] S) _
  unfold b_is_right
  fail "go"
  refine (head_eq (e.ok ho)).mono ?_
  rintro _ _ ⟨rfl, rfl⟩
  rcases head_or d with ⟨h, ds, rfl⟩ | hd
  rotate_left
  · rw [(sR_no (c := false) (pl := pl) (k := k) hd).2]
    fail "go"
    refine (ihS pl p S0 _ _ _ e hp ho (by omega) (by omega)).mono ?_
    rintro _ _ ⟨rfl, _⟩
    fail "go"
    rw [(sR_no hd).1, (sR_no hd).1]
    exact ⟨rfl, by assumption⟩
  have hh : headS (.tup (.str h :: ds)) = h := rfl
  rw [hh]
  rcases ds with _ | ⟨a, _ | ⟨b, _ | ⟨c, _ | ⟨g, r⟩⟩⟩⟩

  · have hP := hp.ext e
    have hP2 := hP
    unfold Plc Pl.obj at hP2
    repeat' first
      | fail "mi"
      | (with_reducible refine Wp.op2 in_two ?_)
      | fail "ml"
      | (with_reducible refine And.intro (fun hb => ?_) (fun hb => ?_))
      | (with_reducible refine (name_eq (Ext.ok (S := S0) (by assumption) (by assumption))).mono ?_; rintro _ _ ⟨rfl, rfl⟩)
      | (with_reducible refine (ihS pl p S0 _ _ _ (by assumption) (by assumption) (by assumption) (by omega) (by omega)).mono ?_; rintro _ _ ⟨rfl, _⟩)
      | (with_reducible refine (ihL pl p S0 _ _ _ (by assumption) (by assumption) (by assumption) (by omega) (by omega)).mono ?_; rintro _ _ ⟨rfl, _⟩)
      | (with_reducible refine Wp.ok (fld_ins (by assumption) rfl rfl) ?_)
    all_goals first | assumption | (refine ⟨?_, by assumption⟩; (try clear ihB); (try clear ihT); (try clear ihR); (try clear ihS); (try clear ihL); (try clear hn); clear hP hP2 hp ho hh; first | rfl | (simp_all (decide := true) [sR]; done) | (simp_all (decide := true) [sR] <;> omega))
  · have hP := hp.ext e
    have hP2 := hP
    unfold Plc Pl.obj at hP2
    have o1 := okD_1 ho
    repeat' first
      | fail "mi"
      | (with_reducible refine Wp.op2 in_two ?_)
      | fail "ml"
      | (with_reducible refine And.intro (fun hb => ?_) (fun hb => ?_))
      | (with_reducible refine (name_eq (Ext.ok (S := S0) (by assumption) (by assumption))).mono ?_; rintro _ _ ⟨rfl, rfl⟩)
      | (with_reducible refine (ihS pl p S0 _ _ _ (by assumption) (by assumption) (by assumption) (by omega) (by omega)).mono ?_; rintro _ _ ⟨rfl, _⟩)
      | (with_reducible refine (ihL pl p S0 _ _ _ (by assumption) (by assumption) (by assumption) (by omega) (by omega)).mono ?_; rintro _ _ ⟨rfl, _⟩)
      | (with_reducible refine Wp.ok (fld_ins (by assumption) rfl rfl) ?_)
    all_goals first | assumption | (refine ⟨?_, by assumption⟩; (try clear ihB); (try clear ihT); (try clear ihR); (try clear ihS); (try clear ihL); (try clear hn); clear hP hP2 hp ho hh; first | rfl | (simp_all (decide := true) [sR]; done) | (simp_all (decide := true) [sR] <;> omega))
  · have hP := hp.ext e
    have hP2 := hP
    unfold Plc Pl.obj at hP2
    obtain ⟨o1, o2⟩ := okD_2 ho
    repeat' first
      | fail "mi"
      | (with_reducible refine Wp.op2 in_two ?_)
      | fail "ml"
      | (with_reducible refine And.intro (fun hb => ?_) (fun hb => ?_))
      | (with_reducible refine (name_eq (Ext.ok (S := S0) (by assumption) (by assumption))).mono ?_; rintro _ _ ⟨rfl, rfl⟩)
      | (with_reducible refine (ihS pl p S0 _ _ _ (by assumption) (by assumption) (by assumption) (by omega) (by omega)).mono ?_; rintro _ _ ⟨rfl, _⟩)
      | (with_reducible refine (ihL pl p S0 _ _ _ (by assumption) (by assumption) (by assumption) (by omega) (by omega)).mono ?_; rintro _ _ ⟨rfl, _⟩)
      | (with_reducible refine Wp.ok (fld_ins (by assumption) rfl rfl) ?_)
    all_goals first | assumption | (refine ⟨?_, by assumption⟩; (try clear ihB); (try clear ihT); (try clear ihR); (try clear ihS); (try clear ihL); (try clear hn); clear hP hP2 hp ho hh; first | rfl | (simp_all (decide := true) [sR]; done) | (simp_all (decide := true) [sR] <;> omega))
  · have hP := hp.ext e
    have hP2 := hP
    unfold Plc Pl.obj at hP2
    obtain ⟨o1, o2, o3⟩ := okD_3 ho
    repeat' first
      | fail "mi"
      | (with_reducible refine Wp.op2 in_two ?_)
      | fail "ml"
      | (with_reducible refine And.intro (fun hb => ?_) (fun hb => ?_))
      | (with_reducible refine (name_eq (Ext.ok (S := S0) (by assumption) (by assumption))).mono ?_; rintro _ _ ⟨rfl, rfl⟩)
      | (with_reducible refine (ihS pl p S0 _ _ _ (by assumption) (by assumption) (by assumption) (by omega) (by omega)).mono ?_; rintro _ _ ⟨rfl, _⟩)
      | (with_reducible refine (ihL pl p S0 _ _ _ (by assumption) (by assumption) (by assumption) (by omega) (by omega)).mono ?_; rintro _ _ ⟨rfl, _⟩)
      | (with_reducible refine Wp.ok (fld_ins (by assumption) rfl rfl) ?_)
    all_goals first | assumption | (refine ⟨?_, by assumption⟩; (try clear ihB); (try clear ihT); (try clear ihR); (try clear ihS); (try clear ihL); (try clear hn); clear hP hP2 hp ho hh; first | rfl | (simp_all (decide := true) [sR]; done) | (simp_all (decide := true) [sR] <;> omega))
  · have hP := hp.ext e
    have hP2 := hP
    unfold Plc Pl.obj at hP2
    repeat' first
      | fail "mi"
      | (with_reducible refine Wp.op2 in_two ?_)
      | fail "ml"
      | (with_reducible refine And.intro (fun hb => ?_) (fun hb => ?_))
      | (with_reducible refine (name_eq (Ext.ok (S := S0) (by assumption) (by assumption))).mono ?_; rintro _ _ ⟨rfl, rfl⟩)
      | (with_reducible refine (ihS pl p S0 _ _ _ (by assumption) (by assumption) (by assumption) (by omega) (by omega)).mono ?_; rintro _ _ ⟨rfl, _⟩)
      | (with_reducible refine (ihL pl p S0 _ _ _ (by assumption) (by assumption) (by assumption) (by omega) (by omega)).mono ?_; rintro _ _ ⟨rfl, _⟩)
      | (with_reducible refine Wp.ok (fld_ins (by assumption) rfl rfl) ?_)
    all_goals first | assumption | (refine ⟨?_, by assumption⟩; (try clear ihB); (try clear ihT); (try clear ihR); (try clear ihS); (try clear ihL); (try clear hn); clear hP hP2 hp ho hh; first | rfl | (simp_all (decide := true) [sR]; done) | (simp_all (decide := true) [sR] <;> omega))
end Mkk02
namespace Mkk02
open PySem Mi
theorem st_test {n : Nat} (ihS : SpM (r_is_simple n .is_simple) (sR false) 2 n) (ihT : SpT (r_is_simple n .is_test) n) : SpT (r_is_simple (n + 1) .is_test) (n + 1) := by
  intro pl p S0 S k l d e hp ho hk hl0 hl3 hn
  show Wp (mFn 4 5 (b_is_test (r_is_simple n)) [d, .ref p, .int k, .int l] S) _
  unfold b_is_test
  fail "go"
  refine (head_eq (e.ok ho)).mono ?_
  rintro _ _ ⟨rfl, rfl⟩
  by_cases hl : l = 0
  · subst hl
    fail "go"
    refine ⟨?_, e⟩
    rcases head_or d with ⟨h, ds, rfl⟩ | hd
    · unfold sT; rfl
    · rw [(sT_no hd).1]
  have hl1 : (l == 0) = false := by simpa using hl
  have hl2 : l.toNat ≠ 0 := by omega
  have hl4 : (l - 1).toNat = l.toNat - 1 := by omega
  rcases head_or d with ⟨h, ds, rfl⟩ | hd
  rotate_left
  · rw [(sR_no (c := false) (pl := pl) (k := k) hd).2, (sT_no hd).1]
    fail "go"
    refine Wp.bf hl1 ?_
    fail "go"
    exact e
  have hh : headS (.tup (.str h :: ds)) = h := rfl
  rw [hh]
  rcases ds with _ | ⟨a, _ | ⟨b, _ | ⟨c, _ | ⟨g, r⟩⟩⟩⟩

  · have hP := hp.ext e
    have hP2 := hP
    unfold Plc Pl.obj at hP2
    repeat' first
      | fail "mi"
      | (with_reducible refine Wp.op2 in_two ?_)
      | fail "ml"
      | (with_reducible refine And.intro (fun hb => ?_) (fun hb => ?_))
      | (with_reducible refine (ihS pl p S0 _ _ _ (by assumption) (by assumption) (by assumption) (by omega) (by omega)).mono ?_; rintro _ _ ⟨rfl, _⟩)
      | (refine (ihT pl p S0 _ _ _ _ (by assumption) (by assumption) (by assumption) (by omega) (by omega) (by omega) (by omega)).mono ?_; rintro _ _ ⟨rfl, _⟩)
    all_goals first | assumption | (refine ⟨?_, by assumption⟩; (try clear ihB); (try clear ihT); (try clear ihR); (try clear ihS); (try clear ihL); (try clear hn); clear hP hP2 hp ho hh; first | rfl | (simp_all (decide := true) [sT, hl2, hl4]; done) | (simp_all (decide := true) [sT, hl2, hl4] <;> omega))
  · have hP := hp.ext e
    have hP2 := hP
    unfold Plc Pl.obj at hP2
    have o1 := okD_1 ho
    repeat' first
      | fail "mi"
      | (with_reducible refine Wp.op2 in_two ?_)
      | fail "ml"
      | (with_reducible refine And.intro (fun hb => ?_) (fun hb => ?_))
      | (with_reducible refine (ihS pl p S0 _ _ _ (by assumption) (by assumption) (by assumption) (by omega) (by omega)).mono ?_; rintro _ _ ⟨rfl, _⟩)
      | (refine (ihT pl p S0 _ _ _ _ (by assumption) (by assumption) (by assumption) (by omega) (by omega) (by omega) (by omega)).mono ?_; rintro _ _ ⟨rfl, _⟩)
    all_goals first | assumption | (refine ⟨?_, by assumption⟩; (try clear ihB); (try clear ihT); (try clear ihR); (try clear ihS); (try clear ihL); (try clear hn); clear hP hP2 hp ho hh; first | rfl | (simp_all (decide := true) [sT, hl2, hl4]; done) | (simp_all (decide := true) [sT, hl2, hl4] <;> omega))
  · have hP := hp.ext e
    have hP2 := hP
    unfold Plc Pl.obj at hP2
    obtain ⟨o1, o2⟩ := okD_2 ho
    repeat' first
      | fail "mi"
      | (with_reducible refine Wp.op2 in_two ?_)
      | fail "ml"
      | (with_reducible refine And.intro (fun hb => ?_) (fun hb => ?_))
      | (with_reducible refine (ihS pl p S0 _ _ _ (by assumption) (by assumption) (by assumption) (by omega) (by omega)).mono ?_; rintro _ _ ⟨rfl, _⟩)
      | (refine (ihT pl p S0 _ _ _ _ (by assumption) (by assumption) (by assumption) (by omega) (by omega) (by omega) (by omega)).mono ?_; rintro _ _ ⟨rfl, _⟩)
    all_goals first | assumption | (refine ⟨?_, by assumption⟩; (try clear ihB); (try clear ihT); (try clear ihR); (try clear ihS); (try clear ihL); (try clear hn); clear hP hP2 hp ho hh; first | rfl | (simp_all (decide := true) [sT, hl2, hl4]; done) | (simp_all (decide := true) [sT, hl2, hl4] <;> omega))
  · have hP := hp.ext e
    have hP2 := hP
    unfold Plc Pl.obj at hP2
    obtain ⟨o1, o2, o3⟩ := okD_3 ho
    repeat' first
      | fail "mi"
      | (with_reducible refine Wp.op2 in_two ?_)
      | fail "ml"
      | (with_reducible refine And.intro (fun hb => ?_) (fun hb => ?_))
      | (with_reducible refine (ihS pl p S0 _ _ _ (by assumption) (by assumption) (by assumption) (by omega) (by omega)).mono ?_; rintro _ _ ⟨rfl, _⟩)
      | (refine (ihT pl p S0 _ _ _ _ (by assumption) (by assumption) (by assumption) (by omega) (by omega) (by omega) (by omega)).mono ?_; rintro _ _ ⟨rfl, _⟩)
    all_goals first | assumption | (refine ⟨?_, by assumption⟩; (try clear ihB); (try clear ihT); (try clear ihR); (try clear ihS); (try clear ihL); (try clear hn); clear hP hP2 hp ho hh; first | rfl | (simp_all (decide := true) [sT, hl2, hl4]; done) | (simp_all (decide := true) [sT, hl2, hl4] <;> omega))
  · have hP := hp.ext e
    have hP2 := hP
    unfold Plc Pl.obj at hP2
    repeat' first
      | fail "mi"
      | (with_reducible refine Wp.op2 in_two ?_)
      | fail "ml"
      | (with_reducible refine And.intro (fun hb => ?_) (fun hb => ?_))
      | (with_reducible refine (ihS pl p S0 _ _ _ (by assumption) (by assumption) (by assumption) (by omega) (by omega)).mono ?_; rintro _ _ ⟨rfl, _⟩)
      | (refine (ihT pl p S0 _ _ _ _ (by assumption) (by assumption) (by assumption) (by omega) (by omega) (by omega) (by omega)).mono ?_; rintro _ _ ⟨rfl, _⟩)
    all_goals first | assumption | (refine ⟨?_, by assumption⟩; (try clear ihB); (try clear ihT); (try clear ihR); (try clear ihS); (try clear ihL); (try clear hn); clear hP hP2 hp ho hh; first | rfl | (simp_all (decide := true) [sT, hl2, hl4]; done) | (simp_all (decide := true) [sT, hl2, hl4] <;> omega))
theorem st_short {n : Nat} (ihS : SpM (r_is_simple n .is_simple) (sR false) 2 n) (ihR : SpM (r_is_simple n .is_right) (sR true) 4 n) : SpH (r_is_simple (n + 1) .is_short) (n + 1) := by
  intro pl p S0 S k d e hp ho hk hn q1 q2 q3 q4
  show Wp (mFn 3 4 (b_is_short (r_is_simple n)) [d, .ref p, .int k] S) _
  unfold b_is_short
  fail "go"
  refine (head_eq (e.ok ho)).mono ?_
  rintro _ _ ⟨rfl, rfl⟩
  rcases head_or d with ⟨h, ds, rfl⟩ | hd
  rotate_left
  · rw [(sR_no (c := false) (pl := pl) (k := k) hd).2]
    rw [(sT_no (l := 0) hd).2]
    fail "go"
    exact e
  have hh : headS (.tup (.str h :: ds)) = h := rfl
  rw [hh]
  rw [hh] at q1 q2 q3 q4
  rcases ds with _ | ⟨a, _ | ⟨b, _ | ⟨c, _ | ⟨g, r⟩⟩⟩⟩

  · have hP := hp.ext e
    have hP2 := hP
    unfold Plc Pl.obj at hP2
    repeat' first
      | fail "mi"
      | (with_reducible refine Wp.op2 in_two ?_)
      | fail "ml"
      | (with_reducible refine And.intro (fun hb => ?_) (fun hb => ?_))
      | (with_reducible refine (name_eq (Ext.ok (S := S0) (by assumption) (by assumption))).mono ?_; rintro _ _ ⟨rfl, rfl⟩)
      | (with_reducible refine (hf_eq (pl := pl) (Plc.ext (S0 := S0) (by assumption) (by assumption)) (Ext.ok (S := S0) (by assumption) (by assumption))).mono ?_; rintro _ _ ⟨rfl, rfl⟩)
      | (with_reducible refine Exists.intro _ (Exists.intro _ (And.intro rfl (And.intro (Plc.ext (S0 := S0) (by assumption) (by assumption)) ?_))))
      | (with_reducible refine Wp.ok (fld_ins (by assumption) rfl rfl) ?_)
      | (with_reducible refine (ihS pl p S0 _ _ _ (by assumption) (by assumption) (by assumption) (by omega) (by omega)).mono ?_; rintro _ _ ⟨rfl, _⟩)
      | (with_reducible refine (ihR pl p S0 _ _ _ (by assumption) (by assumption) (by assumption) (by omega) (by omega)).mono ?_; rintro _ _ ⟨rfl, _⟩)
    all_goals first | assumption | (refine ⟨?_, by assumption⟩; (try clear ihB); (try clear ihT); (try clear ihR); (try clear ihS); (try clear ihL); (try clear hn); clear hP hP2 hp ho hh; first | rfl | (simp_all (decide := true) [sS]; done) | (simp_all (decide := true) [sS] <;> omega))
  · have hP := hp.ext e
    have hP2 := hP
    unfold Plc Pl.obj at hP2
    have o1 := okD_1 ho
    repeat' first
      | fail "mi"
      | (with_reducible refine Wp.op2 in_two ?_)
      | fail "ml"
      | (with_reducible refine And.intro (fun hb => ?_) (fun hb => ?_))
      | (with_reducible refine (name_eq (Ext.ok (S := S0) (by assumption) (by assumption))).mono ?_; rintro _ _ ⟨rfl, rfl⟩)
      | (with_reducible refine (hf_eq (pl := pl) (Plc.ext (S0 := S0) (by assumption) (by assumption)) (Ext.ok (S := S0) (by assumption) (by assumption))).mono ?_; rintro _ _ ⟨rfl, rfl⟩)
      | (with_reducible refine Exists.intro _ (Exists.intro _ (And.intro rfl (And.intro (Plc.ext (S0 := S0) (by assumption) (by assumption)) ?_))))
      | (with_reducible refine Wp.ok (fld_ins (by assumption) rfl rfl) ?_)
      | (with_reducible refine (ihS pl p S0 _ _ _ (by assumption) (by assumption) (by assumption) (by omega) (by omega)).mono ?_; rintro _ _ ⟨rfl, _⟩)
      | (with_reducible refine (ihR pl p S0 _ _ _ (by assumption) (by assumption) (by assumption) (by omega) (by omega)).mono ?_; rintro _ _ ⟨rfl, _⟩)
    all_goals first | assumption | (refine ⟨?_, by assumption⟩; (try clear ihB); (try clear ihT); (try clear ihR); (try clear ihS); (try clear ihL); (try clear hn); clear hP hP2 hp ho hh; first | rfl | (simp_all (decide := true) [sS]; done) | (simp_all (decide := true) [sS] <;> omega))
  · have hP := hp.ext e
    have hP2 := hP
    unfold Plc Pl.obj at hP2
    obtain ⟨o1, o2⟩ := okD_2 ho
    repeat' first
      | fail "mi"
      | (with_reducible refine Wp.op2 in_two ?_)
      | fail "ml"
      | (with_reducible refine And.intro (fun hb => ?_) (fun hb => ?_))
      | (with_reducible refine (name_eq (Ext.ok (S := S0) (by assumption) (by assumption))).mono ?_; rintro _ _ ⟨rfl, rfl⟩)
      | (with_reducible refine (hf_eq (pl := pl) (Plc.ext (S0 := S0) (by assumption) (by assumption)) (Ext.ok (S := S0) (by assumption) (by assumption))).mono ?_; rintro _ _ ⟨rfl, rfl⟩)
      | (with_reducible refine Exists.intro _ (Exists.intro _ (And.intro rfl (And.intro (Plc.ext (S0 := S0) (by assumption) (by assumption)) ?_))))
      | (with_reducible refine Wp.ok (fld_ins (by assumption) rfl rfl) ?_)
      | (with_reducible refine (ihS pl p S0 _ _ _ (by assumption) (by assumption) (by assumption) (by omega) (by omega)).mono ?_; rintro _ _ ⟨rfl, _⟩)
      | (with_reducible refine (ihR pl p S0 _ _ _ (by assumption) (by assumption) (by assumption) (by omega) (by omega)).mono ?_; rintro _ _ ⟨rfl, _⟩)
    all_goals first | assumption | (refine ⟨?_, by assumption⟩; (try clear ihB); (try clear ihT); (try clear ihR); (try clear ihS); (try clear ihL); (try clear hn); clear hP hP2 hp ho hh; first | rfl | (simp_all (decide := true) [sS]; done) | (simp_all (decide := true) [sS] <;> omega))
  · have hP := hp.ext e
    have hP2 := hP
    unfold Plc Pl.obj at hP2
    obtain ⟨o1, o2, o3⟩ := okD_3 ho
    repeat' first
      | fail "mi"
      | (with_reducible refine Wp.op2 in_two ?_)
      | fail "ml"
      | (with_reducible refine And.intro (fun hb => ?_) (fun hb => ?_))
      | (with_reducible refine (name_eq (Ext.ok (S := S0) (by assumption) (by assumption))).mono ?_; rintro _ _ ⟨rfl, rfl⟩)
      | (with_reducible refine (hf_eq (pl := pl) (Plc.ext (S0 := S0) (by assumption) (by assumption)) (Ext.ok (S := S0) (by assumption) (by assumption))).mono ?_; rintro _ _ ⟨rfl, rfl⟩)
      | (with_reducible refine Exists.intro _ (Exists.intro _ (And.intro rfl (And.intro (Plc.ext (S0 := S0) (by assumption) (by assumption)) ?_))))
      | (with_reducible refine Wp.ok (fld_ins (by assumption) rfl rfl) ?_)
      | (with_reducible refine (ihS pl p S0 _ _ _ (by assumption) (by assumption) (by assumption) (by omega) (by omega)).mono ?_; rintro _ _ ⟨rfl, _⟩)
      | (with_reducible refine (ihR pl p S0 _ _ _ (by assumption) (by assumption) (by assumption) (by omega) (by omega)).mono ?_; rintro _ _ ⟨rfl, _⟩)
    all_goals first | assumption | (refine ⟨?_, by assumption⟩; (try clear ihB); (try clear ihT); (try clear ihR); (try clear ihS); (try clear ihL); (try clear hn); clear hP hP2 hp ho hh; first | rfl | (simp_all (decide := true) [sS]; done) | (simp_all (decide := true) [sS] <;> omega))
  · have hP := hp.ext e
    have hP2 := hP
    unfold Plc Pl.obj at hP2
    repeat' first
      | fail "mi"
      | (with_reducible refine Wp.op2 in_two ?_)
      | fail "ml"
      | (with_reducible refine And.intro (fun hb => ?_) (fun hb => ?_))
      | (with_reducible refine (name_eq (Ext.ok (S := S0) (by assumption) (by assumption))).mono ?_; rintro _ _ ⟨rfl, rfl⟩)
      | (with_reducible refine (hf_eq (pl := pl) (Plc.ext (S0 := S0) (by assumption) (by assumption)) (Ext.ok (S := S0) (by assumption) (by assumption))).mono ?_; rintro _ _ ⟨rfl, rfl⟩)
      | (with_reducible refine Exists.intro _ (Exists.intro _ (And.intro rfl (And.intro (Plc.ext (S0 := S0) (by assumption) (by assumption)) ?_))))
      | (with_reducible refine Wp.ok (fld_ins (by assumption) rfl rfl) ?_)
      | (with_reducible refine (ihS pl p S0 _ _ _ (by assumption) (by assumption) (by assumption) (by omega) (by omega)).mono ?_; rintro _ _ ⟨rfl, _⟩)
      | (with_reducible refine (ihR pl p S0 _ _ _ (by assumption) (by assumption) (by assumption) (by omega) (by omega)).mono ?_; rintro _ _ ⟨rfl, _⟩)
    all_goals first | assumption | (refine ⟨?_, by assumption⟩; (try clear ihB); (try clear ihT); (try clear ihR); (try clear ihS); (try clear ihL); (try clear hn); clear hP hP2 hp ho hh; first | rfl | (simp_all (decide := true) [sS]; done) | (simp_all (decide := true) [sS] <;> omega))
end Mkk02
namespace Mkk02
open PySem Mi
theorem st_statement {n : Nat} (ihB : SpB (r_is_simple n .is_block) n) (ihT : SpT (r_is_simple n .is_test) n) (ihR : SpH (r_is_simple n .is_short) n) : SpM (r_is_simple (n + 1) .is_statement) sS 6 (n + 1) := by
  intro pl p S0 S k d e hp ho hk hn
  show Wp (mFn 3 4 (b_is_statement (r_is_simple n)) [d, .ref p, .int k] S) _
  unfold b_is_statement
  fail "go"
  refine (head_eq (e.ok ho)).mono ?_
  rintro _ _ ⟨rfl, rfl⟩
  rcases head_or d with ⟨h, ds, rfl⟩ | hd
  rotate_left
  · rw [(sR_no (c := false) (pl := pl) (k := k) hd).2]
    fail "go"
    have q := (sR_no (c := false) (pl := pl) (k := k) hd).2
    refine (ihR pl p S0 _ _ _ e hp ho (by omega) (by omega) (by rw [q]; rfl) (by rw [q]; rfl) (by rw [q]; rfl) (by rw [q]; rfl)).mono ?_
    rintro _ _ ⟨rfl, _⟩
    fail "go"
    assumption
  have hh : headS (.tup (.str h :: ds)) = h := rfl
  rw [hh]
  rcases ds with _ | ⟨a, _ | ⟨b, _ | ⟨c, _ | ⟨g, r⟩⟩⟩⟩

  · have hP := hp.ext e
    have hP2 := hP
    unfold Plc Pl.obj at hP2
    repeat' first
      | fail "mi"
      | (with_reducible refine Wp.op2 in_two ?_)
      | fail "ml"
      | (with_reducible refine And.intro (fun hb => ?_) (fun hb => ?_))
      | (with_reducible refine (name_eq (Ext.ok (S := S0) (by assumption) (by assumption))).mono ?_; rintro _ _ ⟨rfl, rfl⟩)
      | (with_reducible refine (ihB pl p S0 _ _ _ (by assumption) (by assumption) (by assumption) (by omega) (by omega)).mono ?_; rintro _ _ ⟨rfl, _⟩)
      | (refine (ihT pl p S0 _ _ _ _ (by assumption) (by assumption) (by assumption) (by omega) (by omega) (by omega) (by omega)).mono ?_; rintro _ _ ⟨rfl, _⟩)
      | (refine (ihR pl p S0 _ _ _ (by assumption) (by assumption) (by assumption) (by omega) (by omega) (by assumption) (by assumption) (by assumption) (by assumption)).mono ?_; rintro _ _ ⟨rfl, _⟩)
    all_goals first | assumption | (refine ⟨?_, by assumption⟩; (try clear ihB); (try clear ihT); (try clear ihR); (try clear ihS); (try clear ihL); (try clear hn); clear hP hP2 hp ho hh; first | rfl | (simp_all (decide := true) [sS]; done) | (simp_all (decide := true) [sS] <;> omega))
  · have hP := hp.ext e
    have hP2 := hP
    unfold Plc Pl.obj at hP2
    have o1 := okD_1 ho
    repeat' first
      | fail "mi"
      | (with_reducible refine Wp.op2 in_two ?_)
      | fail "ml"
      | (with_reducible refine And.intro (fun hb => ?_) (fun hb => ?_))
      | (with_reducible refine (name_eq (Ext.ok (S := S0) (by assumption) (by assumption))).mono ?_; rintro _ _ ⟨rfl, rfl⟩)
      | (with_reducible refine (ihB pl p S0 _ _ _ (by assumption) (by assumption) (by assumption) (by omega) (by omega)).mono ?_; rintro _ _ ⟨rfl, _⟩)
      | (refine (ihT pl p S0 _ _ _ _ (by assumption) (by assumption) (by assumption) (by omega) (by omega) (by omega) (by omega)).mono ?_; rintro _ _ ⟨rfl, _⟩)
      | (refine (ihR pl p S0 _ _ _ (by assumption) (by assumption) (by assumption) (by omega) (by omega) (by assumption) (by assumption) (by assumption) (by assumption)).mono ?_; rintro _ _ ⟨rfl, _⟩)
    all_goals first | assumption | (refine ⟨?_, by assumption⟩; (try clear ihB); (try clear ihT); (try clear ihR); (try clear ihS); (try clear ihL); (try clear hn); clear hP hP2 hp ho hh; first | rfl | (simp_all (decide := true) [sS]; done) | (simp_all (decide := true) [sS] <;> omega))
  · have hP := hp.ext e
    have hP2 := hP
    unfold Plc Pl.obj at hP2
    obtain ⟨o1, o2⟩ := okD_2 ho
    repeat' first
      | fail "mi"
      | (with_reducible refine Wp.op2 in_two ?_)
      | fail "ml"
      | (with_reducible refine And.intro (fun hb => ?_) (fun hb => ?_))
      | (with_reducible refine (name_eq (Ext.ok (S := S0) (by assumption) (by assumption))).mono ?_; rintro _ _ ⟨rfl, rfl⟩)
      | (with_reducible refine (ihB pl p S0 _ _ _ (by assumption) (by assumption) (by assumption) (by omega) (by omega)).mono ?_; rintro _ _ ⟨rfl, _⟩)
      | (refine (ihT pl p S0 _ _ _ _ (by assumption) (by assumption) (by assumption) (by omega) (by omega) (by omega) (by omega)).mono ?_; rintro _ _ ⟨rfl, _⟩)
      | (refine (ihR pl p S0 _ _ _ (by assumption) (by assumption) (by assumption) (by omega) (by omega) (by assumption) (by assumption) (by assumption) (by assumption)).mono ?_; rintro _ _ ⟨rfl, _⟩)
    all_goals first | assumption | (refine ⟨?_, by assumption⟩; (try clear ihB); (try clear ihT); (try clear ihR); (try clear ihS); (try clear ihL); (try clear hn); clear hP hP2 hp ho hh; first | rfl | (simp_all (decide := true) [sS]; done) | (simp_all (decide := true) [sS] <;> omega))
  · have hP := hp.ext e
    have hP2 := hP
    unfold Plc Pl.obj at hP2
    obtain ⟨o1, o2, o3⟩ := okD_3 ho
    repeat' first
      | fail "mi"
      | (with_reducible refine Wp.op2 in_two ?_)
      | fail "ml"
      | (with_reducible refine And.intro (fun hb => ?_) (fun hb => ?_))
      | (with_reducible refine (name_eq (Ext.ok (S := S0) (by assumption) (by assumption))).mono ?_; rintro _ _ ⟨rfl, rfl⟩)
      | (with_reducible refine (ihB pl p S0 _ _ _ (by assumption) (by assumption) (by assumption) (by omega) (by omega)).mono ?_; rintro _ _ ⟨rfl, _⟩)
      | (refine (ihT pl p S0 _ _ _ _ (by assumption) (by assumption) (by assumption) (by omega) (by omega) (by omega) (by omega)).mono ?_; rintro _ _ ⟨rfl, _⟩)
      | (refine (ihR pl p S0 _ _ _ (by assumption) (by assumption) (by assumption) (by omega) (by omega) (by assumption) (by assumption) (by assumption) (by assumption)).mono ?_; rintro _ _ ⟨rfl, _⟩)
    all_goals first | assumption | (refine ⟨?_, by assumption⟩; (try clear ihB); (try clear ihT); (try clear ihR); (try clear ihS); (try clear ihL); (try clear hn); clear hP hP2 hp ho hh; first | rfl | (simp_all (decide := true) [sS]; done) | (simp_all (decide := true) [sS] <;> omega))
  · have hP := hp.ext e
    have hP2 := hP
    unfold Plc Pl.obj at hP2
    repeat' first
      | fail "mi"
      | (with_reducible refine Wp.op2 in_two ?_)
      | fail "ml"
      | (with_reducible refine And.intro (fun hb => ?_) (fun hb => ?_))
      | (with_reducible refine (name_eq (Ext.ok (S := S0) (by assumption) (by assumption))).mono ?_; rintro _ _ ⟨rfl, rfl⟩)
      | (with_reducible refine (ihB pl p S0 _ _ _ (by assumption) (by assumption) (by assumption) (by omega) (by omega)).mono ?_; rintro _ _ ⟨rfl, _⟩)
      | (refine (ihT pl p S0 _ _ _ _ (by assumption) (by assumption) (by assumption) (by omega) (by omega) (by omega) (by omega)).mono ?_; rintro _ _ ⟨rfl, _⟩)
      | (refine (ihR pl p S0 _ _ _ (by assumption) (by assumption) (by assumption) (by omega) (by omega) (by assumption) (by assumption) (by assumption) (by assumption)).mono ?_; rintro _ _ ⟨rfl, _⟩)
    all_goals first | assumption | (refine ⟨?_, by assumption⟩; (try clear ihB); (try clear ihT); (try clear ihR); (try clear ihS); (try clear ihL); (try clear hn); clear hP hP2 hp ho hh; first | rfl | (simp_all (decide := true) [sS]; done) | (simp_all (decide := true) [sS] <;> omega))
theorem st_block {n : Nat} (ihS : SpM (r_is_simple n .is_statement) sS 6 n) : SpB (r_is_simple (n + 1) .is_block) (n + 1) := by
  intro pl p S0 S k d e hp ho hk hn
  show Wp (mFn 3 4 (b_is_block (r_is_simple n)) [d, .ref p, .int k] S) _
  unfold b_is_block
  cases d with
  | tup ds =>
    fail "go"
    refine ⟨fun h1 => ?_, fun h1 => ?_⟩
    · have h1 : ¬ ds.length ≤ 12 := by
        have := of_decide_eq_true h1
        omega
      fail "go"
      exact ⟨by simp [sB, h1], e⟩
    · have h1 : ds.length ≤ 12 := by
        have := of_decide_eq_false h1
        omega
      fail "go"
      refine ⟨fun h9 => ?_, fun h9 => ?_⟩
      · have h9 : ¬ k ≤ 8 := by
          have := of_decide_eq_true h9
          omega
        fail "go"
        exact ⟨by simp [sB, h9], e⟩
      have h9 : k ≤ 8 := by
        have := of_decide_eq_false h9
        omega
      fail "go"

      refine Wp.forV ?_
      fail "go"
      refine .inl ⟨ds, .inl rfl, ds, rfl, fun i ρ S' => Ext S0 S' ∧ (ds.take i).all (sS pl k) = true ∧ ∃ o, ρ = [some (.tup ds), some (.ref p), some (.int k), o], ?_, ?_, ?_⟩
      · exact ⟨e, by simp, _, rfl⟩
      · rintro i d ρ S' hd ⟨e1, ha, o, rfl⟩
        have hmem : okD S0 d := okL_mem (by unfold okD at ho; exact ho) d (List.mem_of_getElem? hd)
        refine ⟨_, rfl, ?_⟩
        fail "go"
        refine (ihS pl p S0 _ _ _ e1 hp hmem (by omega) (by omega)).mono ?_
        rintro _ S2 ⟨rfl, e2⟩
        fail "go"
        refine ⟨fun h2 => ?_, fun h2 => ?_⟩
        · have h2 : sS pl k d = false := by simpa using h2
          fail "go"
          refine ⟨?_, e2⟩
          rw [sB, sSl_all, all_no hd h2]
          simp
        · have h2 : sS pl k d = true := by simpa using h2
          fail "go"
          exact ⟨e2, all_take hd ha h2, _, rfl⟩
      · rintro ρ S' ⟨e1, ha, o, rfl⟩
        rw [List.take_length] at ha
        fail "go"
        refine ⟨?_, e1⟩
        rw [sB, sSl_all, ha]
        simp [h1, h9]
  | ref m =>
    obtain ⟨t, ht⟩ := (e.ok ho).ty
    fail "go"
    refine ⟨t, ht, ?_⟩
    rcases ref_ty ht with rfl | rfl
    · fail "go"
      first | exact e | exact ⟨by simp [sB], e⟩
    · fail "go"
      first | exact e | exact ⟨by simp [sB], e⟩
  | _ =>
    fail "go"
    first | exact e | exact ⟨by simp [sB], e⟩
theorem fm_all : ∀ n : Nat, SpM (r_is_simple n .is_simple) (sR false) 2 n ∧ SpM (r_is_simple n .are_things) sTs 3 n ∧ SpM (r_is_simple n .is_right) (sR true) 4 n ∧ SpT (r_is_simple n .is_test) n ∧ SpH (r_is_simple n .is_short) n ∧ SpM (r_is_simple n .is_statement) sS 6 n ∧ SpB (r_is_simple n .is_block) n
  | 0 => ⟨fun _ _ _ _ _ _ _ _ _ h h2 => by omega, fun _ _ _ _ _ _ _ _ _ h h2 => by omega, fun _ _ _ _ _ _ _ _ _ h h2 => by omega, fun _ _ _ _ _ _ _ _ _ _ h h2 h3 h4 => by omega, fun _ _ _ _ _ _ _ _ _ h h2 => by omega, fun _ _ _ _ _ _ _ _ _ h h2 => by omega, fun _ _ _ _ _ _ _ _ _ h h2 => by omega⟩
  | n + 1 => by
    obtain ⟨i1, i2, i3, i4, i5, i6, i7⟩ := fm_all n
    exact ⟨st_simple i7, st_things i1, st_right i1 i2, st_test i1 i4, st_short i1 i3, st_statement i7 i4 i5, st_block i6⟩
theorem block_eq {pl : Pl} {p : Nat} {S : So} {k : Int} {d : D} (hp : Plc S p pl) (ho : okD S d) (h1 : 1 ≤ k) (h9 : k ≤ 9) : Wp (m_is_block [d, .ref p, .int k] S) (fun r S' => r = .bl (sB pl k d) ∧ Ext S S') :=
  (fm_all 80).2.2.2.2.2.2 pl p S S k d Ext.refl hp ho h9 (by omega)
end Mkk02
namespace Mkk02
open PySem Mi
theorem fields_eq {d : D} {S : So} (h : okF S d) : Wp (m_are_fields [d] S) (fun r S' => r = .bl (dictB fieldsK S d) ∧ S' = S) := by
  unfold m_are_fields b_are_fields
  cases d with
  | ref n =>
    rcases h.2 n rfl with ⟨l, hl⟩ | ⟨kvs, hl, hk⟩
    · fail "go"
      refine ⟨_, tyr_lst hl, ?_⟩
      fail "go"
      simp [dictB, hl]
    · have hD : dictB fieldsK S (.ref n) = fieldsK kvs := by
        unfold dictB
        simp only [hl]
      rw [hD]
      fail "go"
      refine ⟨_, tyr_dct hl, ?_⟩
      fail "go"
      refine Wp.opL (len_dct hl) ?_
      fail "go"
      refine ⟨fun h1 => ?_, fun h1 => ?_⟩
      · have h1 : ¬ kvs.length ≤ 3 := by
          have := of_decide_eq_true h1
          omega
        fail "go"
        simp [fieldsK, h1]
      · have h1 : kvs.length ≤ 3 := by
          have := of_decide_eq_false h1
          omega
        fail "go"
        refine Wp.lock (md_var rfl hl) hl ?_
        have hs := set_at (o' := .lck kvs) hl
        refine Wp.forV ?_
        fail "go"
        refine ⟨fun i ρ S' => S' = S.set n (.lck kvs) ∧ (kvs.take i).all fieldK = true ∧ ∃ a b, ρ = [some (.ref n), a, b], ⟨rfl, by simp, _, _, rfl⟩, ?_, ?_⟩
        · rintro i d ρ S' hd ⟨rfl, ha, a, b, rfl⟩
          obtain ⟨p, hp, rfl⟩ := get_map hd
          have hok := hk p (List.mem_of_getElem? hp)
          refine ⟨_, rfl, ?_⟩
          fail "go"
          refine (name_eq (okD_lck hl hok.1)).mono ?_
          rintro _ _ ⟨rfl, rfl⟩
          fail "go"
          refine ⟨fun h2 => ?_, fun h2 => ?_⟩
          · have h2 : nameB (kD p.1) = false := by simpa using h2
            fail "go"
            refine ⟨⟨_, hs⟩, ?_⟩
            rw [set_back hl]
            fail "go"
            simp [fieldsK, all_no' hp (f := fieldK) (by simp [fieldK, h2])]
          · have h2 : nameB (kD p.1) = true := by simpa using h2
            fail "go"
            refine (names_eq4 (okD_lck hl hok.2)).mono ?_
            rintro _ _ ⟨rfl, rfl⟩
            fail "go"
            refine ⟨fun h3 => ?_, fun h3 => ?_⟩
            · have h3 : namesB 4 p.2 = false := by simpa using h3
              fail "go"
              refine ⟨⟨_, hs⟩, ?_⟩
              rw [set_back hl]
              fail "go"
              simp [fieldsK, all_no' hp (f := fieldK) (by simp [fieldK, h3])]
            · have h3 : namesB 4 p.2 = true := by simpa using h3
              obtain ⟨k, x⟩ := p
              cases x with
              | tup xs =>
                fail "go"
                refine ⟨fun h4 => ?_, fun h4 => ?_⟩
                · have h4 : xs = [] := by
                    cases xs with
                    | nil => rfl
                    | cons a r => 
                      simp at h4
                      omega
                  fail "go"
                  refine ⟨⟨_, hs⟩, ?_⟩
                  rw [set_back hl]
                  fail "go"
                  simp [fieldsK, all_no' hp (f := fieldK) (by simp [fieldK, h4, emptyT])]
                · have h4 : emptyT (.tup xs) = false := by
                    cases xs with
                    | nil => simp at h4
                    | cons a r => rfl
                  fail "go"
                  have h2' : nameB (kD k) = true := h2
                  have h3' : namesB 4 (.tup xs) = true := h3
                  exact ⟨all_take' hp ha (by simp [fieldK, h2', h3', h4]), _, _, rfl⟩
              | _ => simp [namesB] at h3
        · rintro ρ S' ⟨rfl, ha, a, b, rfl⟩
          rw [List.length_map, List.take_length] at ha
          fail "go"
          refine ⟨⟨_, hs⟩, ?_⟩
          rw [set_back hl]
          fail "go"
          simp [fieldsK, ha, h1]
  | _ =>
    fail "go"
    simp [dictB]
theorem methods_eq {d : D} {S : So} (h : okF S d) : Wp (m_are_methods [d] S) (fun r S' => r = .bl (dictB methsK S d) ∧ S' = S) := by
  unfold m_are_methods b_are_methods
  cases d with
  | ref n =>
    rcases h.2 n rfl with ⟨l, hl⟩ | ⟨kvs, hl, hk⟩
    · fail "go"
      refine ⟨_, tyr_lst hl, ?_⟩
      fail "go"
      simp [dictB, hl]
    · have hD : dictB methsK S (.ref n) = methsK kvs := by
        unfold dictB
        simp only [hl]
      rw [hD]
      fail "go"
      refine ⟨_, tyr_dct hl, ?_⟩
      fail "go"
      refine Wp.opL (len_dct hl) ?_
      fail "go"
      refine ⟨fun h1 => ?_, fun h1 => ?_⟩
      · have h1 : ¬ kvs.length ≤ 5 := by
          have := of_decide_eq_true h1
          omega
        fail "go"
        simp [methsK, h1]
      · have h1 : kvs.length ≤ 5 := by
          have := of_decide_eq_false h1
          omega
        fail "go"
        refine Wp.lock (md_var rfl hl) hl ?_
        have hs := set_at (o' := .lck kvs) hl
        refine Wp.forV ?_
        fail "go"
        refine ⟨fun i ρ S' => S' = S.set n (.lck kvs) ∧ (kvs.take i).all methK = true ∧ ∃ a b, ρ = [some (.ref n), a, b], ⟨rfl, by simp, _, _, rfl⟩, ?_, ?_⟩
        · rintro i d ρ S' hd ⟨rfl, ha, a, b, rfl⟩
          obtain ⟨p, hp, rfl⟩ := get_map hd
          have hok := hk p (List.mem_of_getElem? hp)
          refine ⟨_, rfl, ?_⟩
          fail "go"
          refine (name_eq (okD_lck hl hok.1)).mono ?_
          rintro _ _ ⟨rfl, rfl⟩
          fail "go"
          refine ⟨fun h2 => ?_, fun h2 => ?_⟩
          · have h2 : nameB (kD p.1) = false := by simpa using h2
            fail "go"
            refine ⟨⟨_, hs⟩, ?_⟩
            rw [set_back hl]
            fail "go"
            simp [methsK, all_no' hp (f := methK) (by simp [methK, h2])]
          · have h2 : nameB (kD p.1) = true := by simpa using h2
            fail "go"
            obtain ⟨t, ht, hx⟩ := (okD_lck hl hok.2).isTup
            refine ⟨t, ht, ?_⟩
            rw [hx]
            obtain ⟨k, x⟩ := p
            cases x with
            | tup xs =>
              rcases xs with _ | ⟨a1, _ | ⟨a2, _ | ⟨a3, r⟩⟩⟩
              · fail "go"
                refine ⟨⟨_, hs⟩, ?_⟩
                rw [set_back hl]
                fail "go"
                simp [methsK, all_no' hp (f := methK) (by simp [methK])]
              · fail "go"
                refine ⟨⟨_, hs⟩, ?_⟩
                rw [set_back hl]
                fail "go"
                simp [methsK, all_no' hp (f := methK) (by simp [methK])]
              · have o2 := okD_lck hl hok.2
                simp only [okD, okL] at o2
                fail "go"
                refine (names_eq3 o2.1).mono ?_
                rintro _ _ ⟨rfl, rfl⟩
                fail "go"
                refine ⟨fun h3 => ?_, fun h3 => ?_⟩
                · have h3 : namesB 3 a1 = false := by simpa using h3
                  fail "go"
                  refine ⟨⟨_, hs⟩, ?_⟩
                  rw [set_back hl]
                  fail "go"
                  simp [methsK, all_no' hp (f := methK) (by simp [methK, h3])]
                · have h3 : namesB 3 a1 = true := by simpa using h3
                  fail "go"
                  have h2' : nameB (kD k) = true := h2
                  exact ⟨all_take' hp ha (by simp [methK, h2', h3]), _, _, rfl⟩
              · fail "go"
                refine ⟨⟨_, hs⟩, ?_⟩
                rw [set_back hl]
                fail "go"
                simp [methsK, all_no' hp (f := methK) (by simp [methK])]
            | _ =>
              fail "go"
              refine ⟨⟨_, hs⟩, ?_⟩
              rw [set_back hl]
              fail "go"
              simp [methsK, all_no' hp (f := methK) (by simp [methK])]
        · rintro ρ S' ⟨rfl, ha, a, b, rfl⟩
          rw [List.length_map, List.take_length] at ha
          fail "go"
          refine ⟨⟨_, hs⟩, ?_⟩
          rw [set_back hl]
          fail "go"
          simp [methsK, ha, h1]
  | _ =>
    fail "go"
    simp [dictB]
theorem outline_eq {d : D} {S : So} (h : okC S d) : Wp (m_is_outline [d] S) (fun r S' => r = .bl (outB S d) ∧ S' = S) := by
  unfold m_is_outline b_is_outline
  obtain ⟨t, ht, hx⟩ := h.1.isTup
  cases d with
  | tup ds =>
    rcases ds with _ | ⟨p, _ | ⟨m, _ | ⟨f, _ | ⟨g, _ | ⟨z, r⟩⟩⟩⟩⟩
    rotate_left 4
    · obtain ⟨h1, h2⟩ := h
      obtain ⟨hf, hg⟩ := h2 p m f g rfl
      simp only [okD, okL] at h1
      obtain ⟨o1, o2, -⟩ := h1
      refine Wp.fn ?_
      refine Wp.seq ?_
      refine Wp.mono (Q := fun q S' => q = (.nx, [some (.tup [p, m, f, g])]) ∧ S' = S) (by
        fail "go"
        rfl) ?_
      rintro _ _ ⟨rfl, rfl⟩
      refine Wp.nx ?_
      refine Wp.seq ?_
      by_cases hp : parOk p = true
      · refine Wp.mono (Q := fun q S1 => q = (.nx, [some (.tup [p, m, f, g])]) ∧ S1 = _) (by
          by_cases hn : p = .non
          · subst hn
            fail "go"
            rfl
          · have hq : ∀ S, notND p S = .ok (.bl true) S := by
              intro S
              cases p <;> first | rfl | exact absurd rfl hn
            have hpo : parOk p = nameB p := by cases p <;> first | rfl | exact absurd rfl hn
            rw [hpo] at hp
            fail "go"
            refine Wp.op1 (hq _) ?_
            fail "go"
            refine (name_eq o1).mono ?_
            rintro _ _ ⟨rfl, rfl⟩
            rw [hp]
            fail "go"
            rfl) ?_
        rintro _ _ ⟨rfl, rfl⟩
        refine Wp.nx ?_
        obtain ⟨t, ht, hx⟩ := o2.isStr
        fail "go"
        refine ⟨t, ht, ?_⟩
        rw [hx]
        cases m with
        | str x =>
          fail "go"
          refine ⟨fun h3 => ?_, fun h3 => ?_⟩
          · have h3 : markB (.str x) = false := by simpa [markB] using h3
            fail "go"
            simp [outB, h3]
          · have h3 : markB (.str x) = true := by
              have : (x == "open" || x == "closed") = true := by
                cases hq : (x == "open" || x == "closed") with
                | true => rfl
                | false => rw [hq] at h3; cases h3
              exact this
            fail "go"
            refine (fields_eq hf).mono ?_
            rintro _ _ ⟨rfl, rfl⟩
            fail "go"
            refine ⟨fun h4 => ?_, fun h4 => ?_⟩
            · fail "go"
              refine (methods_eq hg).mono ?_
              rintro _ _ ⟨rfl, rfl⟩
              fail "go"
              simp [outB, hp, h3, h4]
            · fail "go"
              simp [outB, hp, h3, h4]
        | _ =>
          fail "go"
          simp [outB, markB]
      · have hn : p ≠ .non := by
          rintro rfl
          exact hp rfl
        have hq : ∀ S, notND p S = .ok (.bl true) S := by
          intro S
          cases p <;> first | rfl | exact absurd rfl hn
        have hpo : parOk p = nameB p := by cases p <;> first | rfl | exact absurd rfl hn
        have h3 : nameB p = false := by
          rw [← hpo]
          simpa using hp
        fail "go"
        refine Wp.op1 (hq _) ?_
        fail "go"
        refine (name_eq o1).mono ?_
        rintro _ _ ⟨rfl, rfl⟩
        rw [h3]
        fail "go"
        simp [outB, hpo, h3]
    · fail "go"
      simp [outB]
    all_goals
      fail "go"
      simp [outB]
  | ref n =>
    fail "go"
    refine ⟨t, ht, ?_⟩
    rw [hx]
    fail "go"
    simp [outB]
  | _ =>
    fail "go"
    simp [outB]
end Mkk02
namespace Mkk02
open PySem Mi
theorem key_kD (k : L2.Key) : keyD (kD k) = some k := by cases k <;> rfl
/-- a class value as an outline has it -/
structure IsOut (c : D) : Prop where
  ex : ∃ p m f g, c = .tup [p, .str m, f, g] ∧ parOk p = true ∧ (m == "open" || m == "closed") = true
theorem isOut_of {S : So} {c : D} (h : outB S c = true) : IsOut c := by
  unfold outB at h
  split at h
  · rename_i p m f g
    simp only [Bool.and_eq_true] at h
    obtain ⟨h1, h2, -⟩ := h
    cases m with
    | str x => exact ⟨p, x, f, g, rfl, h1, h2⟩
    | _ => simp [markB] at h2
  · cases h
theorem parOk_cases {p : D} (h : parOk p = true) : p = .non ∨ ∃ x, p = .str x := by
  cases p with
  | non => exact .inl rfl
  | str x => exact .inr ⟨x, rfl⟩
  | _ => simp [parOk, nameB] at h
theorem val_mem {kvs : List (L2.Key × D)} {k : L2.Key} {c : D} (h : valD kvs k = some c) : ∃ p ∈ kvs, p.2 = c ∧ p.1 = k := by
  unfold valD at h
  cases hf : kvs.find? (fun kv => decide (kv.1 = k)) with
  | none => rw [hf] at h; cases h
  | some p =>
    rw [hf] at h
    cases h
    exact ⟨p, List.mem_of_find?_eq_some hf, rfl, by simpa using List.find?_some hf⟩
theorem ends_eq {n : Nat} {kvs : List (L2.Key × D)} {k : L2.Key} {c : D} {S : So} (hl : S[n]? = some (.lck kvs)) (ho : ∀ p ∈ kvs, IsOut p.2) (hv : valD kvs k = some c) : Wp (m_parents_end [.ref n, kD k] S) (fun r S' => r = .bl (endsB kvs k) ∧ S' = S) := by
  unfold m_parents_end b_parents_end
  have hE : endsB kvs k = endsGo kvs 8 (clsPar c) := by
    unfold endsB
    simp only [hv]
  rw [hE]
  obtain ⟨p, hp, rfl, -⟩ := val_mem hv
  obtain ⟨pp, m, f, g, hc, h1, h2⟩ := (ho p hp).ex
  rw [hc] at hv ⊢
  have hcl : clsPar (.tup [pp, .str m, f, g]) = pp := rfl
  rw [hcl]
  fail "go"
  refine Wp.op2 (ix_lck hl (key_kD k) hv) ?_
  fail "go"
  refine Wp.forV ?_
  fail "go"
  refine ⟨by decide, _, rfl, fun i ρ S' => S' = S ∧ ∃ d o, ρ = [some (.ref n), some (kD k), some d, o] ∧ parOk d = true ∧ endsGo kvs 8 pp = endsGo kvs (8 - i) d, ⟨rfl, pp, _, rfl, h1, rfl⟩, ?_, ?_⟩
  · rintro i d ρ S' hd ⟨rfl, d2, o, rfl, hd2, he⟩
    have hi : i < 8 := by
      have := (List.getElem?_eq_some_iff.mp hd).1
      simpa using this
    obtain ⟨j, hj⟩ : ∃ j, 8 - i = j + 1 := ⟨7 - i, by omega⟩
    rw [hj] at he
    refine ⟨_, rfl, ?_⟩
    rcases parOk_cases hd2 with rfl | ⟨x, rfl⟩
    · fail "go"
      rw [he]
      exact ⟨rfl, rfl⟩
    · fail "go"
      refine Wp.op2 (notIn_lck (k := .inr x) hl rfl) ?_
      fail "go"
      cases hx : valD kvs (.inr x) with
      | none =>
        fail "go"
        rw [he]
        simp [endsGo, hx]
      | some c2 =>
        obtain ⟨q, hq, rfl, -⟩ := val_mem hx
        obtain ⟨p2, m2, f2, g2, hc2, i1, i2⟩ := (ho q hq).ex
        rw [hc2] at hx
        fail "go"
        refine Wp.op2 (ix_lck (k := .inr x) hl rfl hx) ?_
        fail "go"
        refine ⟨fun h3 => ?_, fun h3 => ?_⟩
        · have h3 : (m2 == "open") = false := by simpa using h3
          fail "go"
          rw [he]
          simp [endsGo, hx, clsMark, h3]
        · have h3 : (m2 == "open") = true := by simpa using h3
          fail "go"
          refine Wp.op2 (ix_lck (k := .inr x) hl rfl hx) ?_
          fail "go"
          rw [he, show 8 - (i + 1) = j by omega]
          simp [endsGo, hx, clsMark, h3, clsPar]
  · rintro ρ S' ⟨rfl, d2, o, rfl, hd2, he⟩
    have hl8 : ((List.range (Int.toNat 8)).map fun (k : Nat) => D.int (0 + (k : Int))).length = 8 := by simp
    rw [hl8] at he
    fail "go"
    rw [he]
    simp [endsGo]
/-- what classes may be -/
def okCs (S : So) (d : D) : Prop := okD S d ∧ ∀ n, d = .ref n → (∃ l, S[n]? = some (.lst l)) ∨ ∃ kvs, S[n]? = some (.dct kvs) ∧ (kvs.map (·.1)).Nodup ∧ ∀ q ∈ kvs, okD S (kD q.1) ∧ okC S q.2 ∧ ∀ p m f g, q.2 = .tup [p, m, f, g] → f ≠ .ref n ∧ g ≠ .ref n
theorem okC_lck {S : So} {n : Nat} {kvs : List (L2.Key × D)} (h : S[n]? = some (.dct kvs)) {d : D} (o : okC S d) (hd : ∀ p m f g, d = .tup [p, m, f, g] → f ≠ .ref n ∧ g ≠ .ref n) : okC (S.set n (.lck kvs)) d :=
  ⟨okD_lck h o.1, fun p m f g e => ⟨okF_lck h (o.2 p m f g e).1 (hd p m f g e).1, okF_lck h (o.2 p m f g e).2 (hd p m f g e).2⟩⟩
theorem outB_lck {S : So} {n : Nat} {o : O} {d : D} (hd : ∀ p m f g, d = .tup [p, m, f, g] → f ≠ .ref n ∧ g ≠ .ref n) : outB (S.set n o) d = outB S d := by
  unfold outB
  split
  · rename_i p m f g
    obtain ⟨h1, h2⟩ := hd p m f g rfl
    rw [dictB_lck h1, dictB_lck h2]
  · rfl
theorem val_of_mem {kvs : List (L2.Key × D)} (hn : (kvs.map (·.1)).Nodup) {p : L2.Key × D} (hp : p ∈ kvs) : valD kvs p.1 = some p.2 := by
  induction kvs with
  | nil => cases hp
  | cons q r ih =>
    rw [List.map_cons, List.nodup_cons] at hn
    rcases List.mem_cons.mp hp with rfl | hp
    · simp [valD]
    · have hne : q.1 ≠ p.1 := fun z => hn.1 (by rw [z]; exact List.mem_map_of_mem hp)
      have := ih hn.2 hp
      unfold valD at this ⊢
      rw [List.find?_cons]
      simp only [hne, decide_false]
      exact this
theorem outlines_eq {d : D} {S : So} (h : okCs S d) : Wp (m_are_outlines [d] S) (fun r S' => r = .bl (dictB (outsK S) S d) ∧ S' = S) := by
  unfold m_are_outlines b_are_outlines
  cases d with
  | ref n =>
    rcases h.2 n rfl with ⟨l, hl⟩ | ⟨kvs, hl, hnd, hk⟩
    · fail "go"
      refine ⟨_, tyr_lst hl, ?_⟩
      fail "go"
      simp [dictB, hl]
    · have hD : dictB (outsK S) S (.ref n) = outsK S kvs := by
        unfold dictB
        simp only [hl]
      rw [hD]
      fail "go"
      refine ⟨_, tyr_dct hl, ?_⟩
      fail "go"
      refine Wp.opL (len_dct hl) ?_
      fail "go"
      refine ⟨fun h1 => ?_, fun h1 => ?_⟩
      · have h1 : ¬ kvs.length ≤ 8 := by
          have := of_decide_eq_true h1
          omega
        fail "go"
        simp [outsK, h1]
      · have h1 : kvs.length ≤ 8 := by
          have := of_decide_eq_false h1
          omega
        fail "go"
        refine Wp.lock (md_var rfl hl) hl ?_
        have hs := set_at (o' := .lck kvs) hl
        refine Wp.forV ?_
        fail "go"
        refine ⟨fun i ρ S' => S' = S.set n (.lck kvs) ∧ (kvs.take i).all (fun p => nameB (kD p.1) && outB S p.2) = true ∧ ∃ a b, ρ = [some (.ref n), a, b], ⟨rfl, by simp, _, _, rfl⟩, ?_, ?_⟩
        · rintro i d ρ S' hd ⟨rfl, ha, a, b, rfl⟩
          obtain ⟨p, hp, rfl⟩ := get_map hd
          obtain ⟨hok, hoc, hne⟩ := hk p (List.mem_of_getElem? hp)
          refine ⟨_, rfl, ?_⟩
          fail "go"
          refine (name_eq (okD_lck hl hok)).mono ?_
          rintro _ _ ⟨rfl, rfl⟩
          fail "go"
          refine ⟨fun h2 => ?_, fun h2 => ?_⟩
          · have h2 : nameB (kD p.1) = false := by simpa using h2
            fail "go"
            refine ⟨⟨_, hs⟩, ?_⟩
            rw [set_back hl]
            fail "go"
            simp only [outsK, all_no' hp (f := fun p => nameB (kD p.1) && outB S p.2) (by simp [h2]), Bool.and_false, Bool.false_and, and_self]
          · have h2 : nameB (kD p.1) = true := by simpa using h2
            fail "go"
            refine (outline_eq (okC_lck hl hoc hne)).mono ?_
            rintro _ _ ⟨rfl, rfl⟩
            rw [outB_lck hne]
            fail "go"
            refine ⟨fun h3 => ?_, fun h3 => ?_⟩
            · have h3 : outB S p.2 = false := by simpa using h3
              fail "go"
              refine ⟨⟨_, hs⟩, ?_⟩
              rw [set_back hl]
              fail "go"
              simp only [outsK, all_no' hp (f := fun p => nameB (kD p.1) && outB S p.2) (by simp [h3]), Bool.and_false, Bool.false_and, and_self]
            · have h3 : outB S p.2 = true := by simpa using h3
              fail "go"
              exact ⟨all_take' hp ha (by simp [h2, h3]), _, _, rfl⟩
        · rintro ρ S' ⟨rfl, ha, a, b, rfl⟩
          rw [List.length_map, List.take_length] at ha
          fail "go"
          refine ⟨⟨_, hs⟩, ?_⟩
          rw [set_back hl]
          fail "go"
          have hio : ∀ p ∈ kvs, IsOut p.2 := fun p hp => by
            have := List.all_eq_true.mp ha p hp
            rw [Bool.and_eq_true] at this
            exact isOut_of this.2
          refine Wp.lock (md_var rfl hl) hl ?_
          refine Wp.forV ?_
          fail "go"
          refine ⟨fun i ρ S' => S' = S.set n (.lck kvs) ∧ (kvs.take i).all (fun p => endsB kvs p.1) = true ∧ ∃ a b, ρ = [some (.ref n), a, b], ⟨rfl, by simp, _, _, rfl⟩, ?_, ?_⟩
          · rintro i d ρ S' hd ⟨rfl, ha2, a, b, rfl⟩
            obtain ⟨p, hp, rfl⟩ := get_map hd
            have hmem := List.mem_of_getElem? hp
            refine ⟨_, rfl, ?_⟩
            fail "go"
            refine (ends_eq hs hio (val_of_mem hnd hmem)).mono ?_
            rintro _ _ ⟨rfl, rfl⟩
            fail "go"
            refine ⟨fun h3 => ?_, fun h3 => ?_⟩
            · have h3 : endsB kvs p.1 = false := by simpa using h3
              fail "go"
              refine ⟨⟨_, hs⟩, ?_⟩
              rw [set_back hl]
              fail "go"
              simp only [outsK, all_no' hp (f := fun p => endsB kvs p.1) h3, Bool.and_false, and_self]
            · have h3 : endsB kvs p.1 = true := by simpa using h3
              fail "go"
              exact ⟨all_take' hp ha2 h3, _, _, rfl⟩
          · rintro ρ S' ⟨rfl, ha2, a, b, rfl⟩
            rw [List.length_map, List.take_length] at ha2
            fail "go"
            refine ⟨⟨_, hs⟩, ?_⟩
            rw [set_back hl]
            fail "go"
            simp only [outsK, ha, ha2, h1, decide_true, Bool.and_true, and_self]
  | _ =>
    fail "go"
    simp [dictB]
end Mkk02
namespace Mkk02
open PySem Mi
theorem tuple_lst {S : So} {n : Nat} {l : List D} (h : S[n]? = some (.lst l)) : tupleD [.ref n] S = .ok (.tup l) S := by
  unfold tupleD seqO vw
  simp only [h]
/-- what an outline tells of its parts -/
theorem out_parts {S : So} {c : D} (h : outB S c = true) : ∃ p m f g fs ms, c = .tup [p, .str m, .ref f, .ref g] ∧ parOk p = true ∧ S[f]? = some (.dct fs) ∧ S[g]? = some (.dct ms) ∧ fieldsK fs = true ∧ methsK ms = true := by
  unfold outB at h
  split at h
  · rename_i p m f g
    simp only [Bool.and_eq_true] at h
    obtain ⟨h1, h2, h3, h4⟩ := h
    cases m with
    | str x =>
      cases f with
      | ref a =>
        cases g with
        | ref b =>
          unfold dictB at h3 h4
          simp only at h3 h4
          split at h3
          · rename_i fs hf
            split at h4
            · rename_i ms hm
              exact ⟨p, x, a, b, fs, ms, rfl, h1, hf, hm, h3, h4⟩
            · cases h4
          · cases h3
        | _ => simp [dictB] at h4
      | _ => simp [dictB] at h3
    | _ => simp [markB] at h2
  · cases h
theorem fields_keys {fs : List (L2.Key × D)} (h : fieldsK fs = true) : (∀ p ∈ fs, nameB (kD p.1) = true) ∧ fs.length < 64 ∧ ∀ p ∈ fs, namesB 4 p.2 = true := by
  simp only [fieldsK, Bool.and_eq_true, decide_eq_true_eq] at h
  refine ⟨fun p hp => ?_, by omega, fun p hp => ?_⟩
  · have := List.all_eq_true.mp h.2 p hp
    simp only [fieldK, Bool.and_eq_true] at this
    exact this.1
  · have := List.all_eq_true.mp h.2 p hp
    simp only [fieldK, Bool.and_eq_true] at this
    exact this.2.1
theorem meths_keys {ms : List (L2.Key × D)} (h : methsK ms = true) : (∀ p ∈ ms, nameB (kD p.1) = true) ∧ ms.length < 64 ∧ ∀ p ∈ ms, ∃ ps b, p.2 = .tup [ps, b] ∧ namesB 3 ps = true := by
  simp only [methsK, Bool.and_eq_true, decide_eq_true_eq] at h
  refine ⟨fun p hp => ?_, by omega, fun p hp => ?_⟩
  · have := List.all_eq_true.mp h.2 p hp
    simp only [methK, Bool.and_eq_true] at this
    exact this.1
  · have := List.all_eq_true.mp h.2 p hp
    simp only [methK, Bool.and_eq_true] at this
    have h2 := this.2
    split at h2
    · rename_i ps b e
      exact ⟨ps, b, e, h2⟩
    · cases h2
theorem find_go {f : Str → Bool} {l : List Str} {i : Nat} (h : (l.take i).all f = true) {x : Str} (hx : l[i]? = some x) (hf : f x = false) : l.find? (fun x => !f x) = some x := by
  have e : l = l.take i ++ x :: l.drop (i + 1) := by
    have hi := (List.getElem?_eq_some_iff.mp hx).1
    have := List.drop_eq_getElem_cons hi
    rw [(List.getElem?_eq_some_iff.mp hx).2] at this
    rw [← this, List.take_append_drop]
  rw [e, List.find?_append]
  have : (l.take i).find? (fun x => !f x) = none := by
    rw [List.find?_eq_none]
    intro y hy
    have := List.all_eq_true.mp h y hy
    simp [this]
  rw [this]
  simp [hf]
theorem find_none {f : Str → Bool} {l : List Str} (h : l.all f = true) : l.find? (fun x => !f x) = none := by
  rw [List.find?_eq_none]
  intro y hy
  have := List.all_eq_true.mp h y hy
  simp [this]
theorem bad_method_eq {c : D} {S : So} {kn : Option (List Str)} (h : outB S c = true) (hok : okC S c) : Wp (m_bad_method [c, encN kn] S) (fun r S' => r = optS (badM S kn c) ∧ Ext S S') := by
  obtain ⟨p, m, f, g, fs, ms, rfl, hp, hf, hg, kf, km⟩ := out_parts h
  obtain ⟨f1, f2, -⟩ := fields_keys kf
  obtain ⟨m1, m2, m3⟩ := meths_keys km
  obtain ⟨-, og⟩ := hok.2 _ _ _ _ rfl
  have hms : okK S ms := by
    rcases og.2 g rfl with ⟨l, hl⟩ | ⟨k2, hl, hk⟩
    · rw [hg] at hl; cases hl
    · rw [hg] at hl; cases hl; exact hk
  have hb : badM S kn (.tup [p, .str m, .ref f, .ref g]) = badMeth ⟨some (namesK fs), !isNonB p, kn, true⟩ ms := by
    unfold badM
    simp only [hf, hg]
  rw [hb]
  unfold m_bad_method b_bad_method
  fail "go"
  refine Wp.opL (sorted_dct hf f1 f2) ?_
  fail "go"
  refine Wp.opL (tuple_lst last_at) ?_
  fail "go"
  have hq : ∀ S, notND p S = .ok (.bl (!isNonB p)) S := by
    intro S
    rcases parOk_cases hp with rfl | ⟨x, rfl⟩ <;> rfl
  refine Wp.op1 (hq _) ?_
  fail "go"
  refine (place_eq (fs := some (namesK fs)) (kn := kn)).mono ?_
  rintro _ _ ⟨rfl, rfl⟩
  fail "go"
  generalize hpl : (⟨some (namesK fs), !isNonB p, kn, true⟩ : Pl) = pl
  generalize hS1 : S ++ [O.lst ((namesK fs).map D.str)] = S1
  have e0 : Ext S (S1 ++ [pl.obj]) := by
    rw [← hS1]
    exact (Ext.refl.app).app
  refine Wp.forS ?_
  fail "go"
  refine Wp.opL (sorted_dct (e0.at_ hg) m1 m2) ?_
  refine .inr (.inr ⟨_, _, rfl, last_at, _, (namesK ms).map D.str, rfl, fun i ρ S' => Ext ((S1 ++ [pl.obj]) ++ [.lst ((namesK ms).map D.str)]) S' ∧ ((namesK ms).take i).all (fun x => sB pl 1 (blkOf ms x)) = true ∧ ∃ o, ρ = [some (.tup [p, .str m, .ref f, .ref g]), some (encN kn), some (.ref S1.length), o], ⟨Ext.refl, by simp, _, rfl⟩, ?_, ?_, ?_⟩)
  · rintro i ρ S' ⟨e1, -⟩
    exact e1.at_ last_at
  · rintro i d ρ S' hd ⟨e1, ha, o, rfl⟩
    obtain ⟨x, hx, rfl⟩ := get_map hd
    obtain ⟨q, hq, hv, hqk⟩ := val_some m1 (List.mem_of_getElem? hx)
    obtain ⟨ps, b, hqb, hps⟩ := m3 q hq
    have eS : Ext S S' := e0.trans (Ext.trans (Ext.app Ext.refl) e1)
    have hg' := eS.at_ hg
    rw [hqb] at hv
    have hblk : blkOf ms x = b := by
      unfold blkOf
      rw [hv]
    have hbo : okD S b := by
      have := (hms q hq).2
      rw [hqb] at this
      simp only [okD, okL] at this
      exact this.2.1
    refine ⟨_, rfl, ?_⟩
    fail "go"
    refine Wp.op2 (ix_dct (k := .inr x) hg' rfl hv) ?_
    fail "go"
    have hP : Plc S' S1.length pl := e1.at_ (Ext.at_ (Ext.app Ext.refl) last_at)
    refine (block_eq hP (eS.ok hbo) (by omega) (by omega)).mono ?_
    rintro _ S2 ⟨rfl, e2⟩
    fail "go"
    refine ⟨fun h3 => ?_, fun h3 => ?_⟩
    · have h3 : sB pl 1 (blkOf ms x) = false := by rw [hblk]; simpa using h3
      fail "go"
      refine ⟨?_, eS.trans e2⟩
      unfold badMeth
      rw [find_go (f := fun x => sB pl 1 (blkOf ms x)) ha hx h3]
      rfl
    · have h3 : sB pl 1 (blkOf ms x) = true := by rw [hblk]; simpa using h3
      fail "go"
      exact ⟨e1.trans e2, all_take' hx ha h3, _, rfl⟩
  · rintro ρ S' ⟨e1, ha, o, rfl⟩
    rw [List.length_map, List.take_length] at ha
    have eS : Ext S S' := e0.trans (Ext.trans (Ext.app Ext.refl) e1)
    fail "go"
    refine ⟨?_, eS⟩
    unfold badMeth
    rw [find_none ha]
    rfl
end Mkk02
namespace Mkk02
open PySem Mi
theorem nameS_len {x : Str} (h : nameS x = true) : x.length ≤ 8 := by
  simp only [nameS, Bool.and_eq_true, decide_eq_true_eq] at h
  exact h.1.2
theorem badM_name {S : So} {kn : Option (List Str)} {c : D} {x : Str} (h : outB S c = true) (hb : badM S kn c = some x) : nameS x = true := by
  obtain ⟨p, m, f, g, fs, ms, rfl, hp, hf, hg, kf, km⟩ := out_parts h
  unfold badM at hb
  simp only [hf, hg] at hb
  unfold badMeth at hb
  have hx := List.mem_of_find?_eq_some hb
  obtain ⟨q, hq, -, hqk⟩ := val_some (meths_keys km).1 hx
  have := (meths_keys km).1 q hq
  rw [hqk] at this
  exact this
theorem outsK_parts {S : So} {kvs : List (L2.Key × D)} (h : outsK S kvs = true) : kvs.length ≤ 8 ∧ (∀ p ∈ kvs, nameB (kD p.1) = true ∧ outB S p.2 = true) ∧ ∀ p ∈ kvs, endsB kvs p.1 = true := by
  simp only [outsK, Bool.and_eq_true, decide_eq_true_eq] at h
  refine ⟨h.1.1, fun p hp => ?_, fun p hp => List.all_eq_true.mp h.2 p hp⟩
  have := List.all_eq_true.mp h.1.2 p hp
  rw [Bool.and_eq_true] at this
  exact this
theorem outB_ext {S S' : So} {c : D} (e : Ext S S') (h : outB S c = true) : outB S' c = true := by
  obtain ⟨p, m, f, g, fs, ms, rfl, hp, hf, hg, kf, km⟩ := out_parts h
  unfold outB at h ⊢
  simp only [Bool.and_eq_true] at h ⊢
  refine ⟨h.1, h.2.1, ?_, ?_⟩
  · unfold dictB
    simp only [e.at_ hf]
    exact kf
  · unfold dictB
    simp only [e.at_ hg]
    exact km
theorem badM_ext {S S' : So} {kn : Option (List Str)} {c : D} (e : Ext S S') (h : outB S c = true) : badM S' kn c = badM S kn c := by
  obtain ⟨p, m, f, g, fs, ms, rfl, hp, hf, hg, kf, km⟩ := out_parts h
  unfold badM
  simp only [hf, hg, e.at_ hf, e.at_ hg]
theorem notN_opt {S : So} {o : Option Str} : notND (optS o) S = .ok (.bl o.isSome) S := by cases o <;> rfl
theorem badCls_go {S : So} {kvs : List (L2.Key × D)} {kn : Option (List Str)} {l : List Str} {i : Nat} (h : (l.take i).all (fun x => (badM S kn (clsOf kvs x)).isNone) = true) : badCls S kvs kn l = badCls S kvs kn (l.drop i) := by
  induction i generalizing l with
  | zero => rfl
  | succ i ih =>
    cases l with
    | nil => rfl
    | cons x r =>
      simp only [List.take_succ_cons, List.all_cons, Bool.and_eq_true] at h
      rw [List.drop_succ_cons, ← ih h.2]
      have h1 := h.1
      unfold badCls
      cases hb : badM S kn (clsOf kvs x) with
      | none =>
        simp only
        cases r <;> rfl
      | some m => rw [hb] at h1; cases h1
theorem bad_part_eq {d body : D} {S : So} (h : okCs S d) (hb : okD S body) : Wp (m_bad_part [d, body] S) (fun r S' => r = optS (badPart S d body) ∧ Ext S S') := by
  unfold m_bad_part b_bad_part
  fail "go"
  refine (outlines_eq h).mono ?_
  rintro _ S ⟨rfl, rfl⟩
  fail "go"
  refine ⟨fun h1 => ?_, fun h1 => ?_⟩
  · have h1 : dictB (outsK S) S d = false := by simpa using h1
    fail "go"
    refine ⟨?_, Ext.refl⟩
    unfold dictB at h1
    unfold badPart
    split
    · rename_i n
      simp only at h1
      split
      · rename_i kvs hl
        simp only [hl] at h1
        rw [h1]
        rfl
      · rfl
    · rfl
  · have h1 : dictB (outsK S) S d = true := by simpa using h1
    cases d with
    | ref n =>
      unfold dictB at h1
      simp only at h1
      split at h1
      · rename_i kvs hl
        obtain ⟨k1, k2, k3⟩ := outsK_parts h1
        have hok : ∀ q ∈ kvs, okC S q.2 := by
          rcases h.2 n rfl with ⟨l, hl2⟩ | ⟨kvs2, hl2, -, hk⟩
          · rw [hl] at hl2; cases hl2
          · rw [hl] at hl2; cases hl2; exact fun q hq => (hk q hq).2.1
        have hp : badPart S (.ref n) body = (match badCls S kvs (some (namesK kvs)) (namesK kvs) with
          | some x => some x
          | none => if sB (bodyPl kvs) 1 body then none else some "body") := by
          unfold badPart
          simp only [hl, h1, if_true] <;> rfl
        rw [hp]
        have hkn : ∀ p ∈ kvs, nameB (kD p.1) = true := fun p hp => (k2 p hp).1
        fail "go"
        refine Wp.opL (sorted_dct hl hkn (by omega)) ?_
        fail "go"
        refine Wp.opL (tuple_lst last_at) ?_
        fail "go"
        refine Wp.forV ?_
        fail "go"
        refine .inl ⟨_, .inl rfl, (namesK kvs).map D.str, rfl, fun i ρ S' => Ext (S ++ [.lst ((namesK kvs).map D.str)]) S' ∧ ((namesK kvs).take i).all (fun x => (badM S (some (namesK kvs)) (clsOf kvs x)).isNone) = true ∧ ∃ a b, ρ = [some (.ref n), some body, some (.tup ((namesK kvs).map D.str)), a, b], ⟨Ext.refl, by simp, _, _, rfl⟩, ?_, ?_⟩
        · rintro i d ρ S' hd ⟨e1, ha, a, b, rfl⟩
          obtain ⟨x, hx, rfl⟩ := get_map hd
          obtain ⟨q, hq, hv, hqk⟩ := val_some hkn (List.mem_of_getElem? hx)
          have eS : Ext S S' := (Ext.app Ext.refl).trans e1
          have hc : clsOf kvs x = q.2 := by
            unfold clsOf
            rw [hv]
            rfl
          have ho := (k2 q hq).2
          refine ⟨_, rfl, ?_⟩
          fail "go"
          refine Wp.op2 (ix_dct (k := .inr x) (eS.at_ hl) rfl hv) ?_
          fail "go"
          refine (bad_method_eq (kn := some (namesK kvs)) (outB_ext eS ho) (okC.ext eS (hok q hq))).mono ?_
          rintro _ S2 ⟨rfl, e2⟩
          rw [badM_ext eS ho]
          fail "go"
          refine Wp.op1 notN_opt ?_
          fail "go"
          cases hm : badM S (some (namesK kvs)) q.2 with
          | none =>
            fail "go"
            exact ⟨e1.trans e2, all_take' hx ha (by rw [hc, hm]; rfl), _, _, rfl⟩
          | some m =>
            have hxn : nameS x = true := by
              have := hkn q hq
              rw [hqk] at this
              exact this
            have l1 := nameS_len hxn
            have l2 := nameS_len (badM_name ho hm)
            have hcat : ∀ S, addD (.str x) (.str ".") S = .ok (.str (x ++ ".")) S := fun S => add_str (by
              have : (("." : Str)).length = 1 := rfl
              have : lim = 100000 := rfl
              omega)
            have hcat2 : ∀ S, addD (.str (x ++ ".")) (.str m) S = .ok (.str (x ++ "." ++ m)) S := fun S => add_str (by
              have h1 : (x ++ ("." : Str)).length = x.length + ("." : Str).length := by
                show (x.cps ++ _).size = _
                exact Array.size_append
              have : (("." : Str)).length = 1 := rfl
              have : lim = 100000 := rfl
              omega)
            fail "go"
            refine Wp.op2 (hcat _) ?_
            fail "go"
            refine Wp.op2 (hcat2 _) ?_
            fail "go"
            refine ⟨?_, eS.trans e2⟩
            have hdrop : (namesK kvs).drop i = x :: (namesK kvs).drop (i + 1) := by
              have hi := (List.getElem?_eq_some_iff.mp hx).1
              rw [List.drop_eq_getElem_cons hi, (List.getElem?_eq_some_iff.mp hx).2]
            rw [badCls_go ha, hdrop]
            unfold badCls
            rw [hc, hm]
            rfl
        · rintro ρ S' ⟨e1, ha, a, b, rfl⟩
          rw [List.length_map] at ha
          have eS : Ext S S' := (Ext.app Ext.refl).trans e1
          have hnone : badCls S kvs (some (namesK kvs)) (namesK kvs) = none := by
            rw [badCls_go ha, List.drop_length]
            rfl
          rw [hnone]
          fail "go"
          refine (place_eq (fs := none) (kn := some (namesK kvs)) (hq := false) (mr := false)).mono ?_
          rintro _ _ ⟨rfl, rfl⟩
          fail "go"
          refine (block_eq (pl := bodyPl kvs) last_at (Ext.ok (eS.trans (Ext.app Ext.refl)) hb) (by omega) (by omega)).mono ?_
          rintro _ S2 ⟨rfl, e2⟩
          fail "go"
          refine ⟨fun h3 => ?_, fun h3 => ?_⟩
          · have h3 : sB (bodyPl kvs) 1 body = false := by simpa using h3
            fail "go"
            refine ⟨?_, eS.trans (Ext.trans (Ext.app Ext.refl) e2)⟩
            rw [h3]
            rfl
          · have h3 : sB (bodyPl kvs) 1 body = true := by simpa using h3
            fail "go"
            refine ⟨?_, eS.trans (Ext.trans (Ext.app Ext.refl) e2)⟩
            rw [h3]
            rfl
      · cases h1
    | _ => cases h1
end Mkk02
namespace Mkk02
open PySem Mi
theorem copied_eq {S : So} {p m : D} {f g : Nat} {fs ms : List (L2.Key × D)} (hf : S[f]? = some (.dct fs)) (hg : S[g]? = some (.dct ms)) : Wp (m_copied [.tup [p, m, .ref f, .ref g]] S) (fun r S' => r = .tup [p, m, .ref S.length, .ref (S.length + 1)] ∧ S' = S ++ [.dct fs, .dct ms]) := by
  unfold m_copied b_copied
  fail "go"
  refine Wp.opL (dict_dct hf) ?_
  fail "go"
  have hg' : (S ++ [O.dct fs])[g]? = some (.dct ms) := by
    rw [List.getElem?_append_left (List.getElem?_eq_some_iff.mp hg).1]
    exact hg
  refine Wp.opL (dict_dct hg') ?_
  fail "go"
  refine ⟨?_, ?_⟩
  · rw [List.length_append]
    rfl
  · simp
theorem md_fld {ok : Str → Bool} {fl C : Str} {i k n : Nat} {fs : List (Str × D)} {kvs : List (L2.Key × D)} {ρ : Ro} {S : So} (h0 : ρ[i]? = some (some (.ref k))) (h1 : S[k]? = some (.ins C fs)) (h2 : ok C = true) (h3 : fs.lookup fl = some (.ref n)) (h4 : S[n]? = some (.dct kvs)) : mdOf (mFld ok fl (mVar i)) ρ S = some n := by
  unfold mdOf mFld Mi.m1 mVar
  simp only [h0, Rs.bind_ok, fld_ins h1 h2 h3, h4]
/-- a good value of a class -/
def GoodC (S : So) (c : D) : Prop := ∃ p m f g fs ms, c = .tup [p, m, .ref f, .ref g] ∧ S[f]? = some (.dct fs) ∧ S[g]? = some (.dct ms)
theorem copied_classes_eq {S : So} {n : Nat} {kvs : List (L2.Key × D)} (hl : S[n]? = some (.dct kvs)) (hn : (kvs.map (·.1)).Nodup) (hlen : kvs.length ≤ 8) (hg : ∀ p ∈ kvs, GoodC S p.2) (hne : ∀ p ∈ kvs, ∀ q m f g, p.2 = .tup [q, m, f, g] → f ≠ .ref n ∧ g ≠ .ref n) :
    Wp (m_copied_classes [.ref n] S) (fun r S' => r = .ref S.length ∧ Ext S S' ∧ ∃ ls, S'[S.length]? = some (.dct ls) ∧ LikeL S S' kvs ls ∧ ls.map (·.1) = kvs.map (·.1)) := by
  unfold m_copied_classes b_copied_classes
  fail "go"
  refine Wp.lockE (md_var rfl hl) hl ?_
  have hs := set_at (o' := .lck kvs) hl
  generalize hS1 : S.set n (.lck kvs) = S1
  have hsl : S1.length = S.length := by rw [← hS1]; exact List.length_set
  rw [hS1] at hs
  have hnl : n < S.length := (List.getElem?_eq_some_iff.mp hl).1
  refine Wp.dcV ?_
  fail "go"
  refine ⟨fun i S' => ∃ acc T, S' = S1 ++ (.dct acc :: T) ∧ acc.length = i ∧ acc.map (·.1) = (kvs.map (·.1)).take i ∧ ∀ (j : Nat) (p : L2.Key × D), j < i → kvs[j]? = some p → ∃ q : L2.Key × D, acc[j]? = some q ∧ q.1 = p.1 ∧ LikeN S S' p.2 q.2, ⟨[], [], rfl, rfl, rfl, fun j p hj => by omega⟩, ?_, ?_⟩
  · rintro i d S' hd ⟨acc, T, rfl, hal, hak, hac⟩
    obtain ⟨p, hp, rfl⟩ := get_map hd
    have hmem := List.mem_of_getElem? hp
    obtain ⟨q, m, f, g, fs, ms, hc, hf, hgg⟩ := hg p hmem
    obtain ⟨nf, ng⟩ := hne p hmem q m (.ref f) (.ref g) hc
    have nf' : n ≠ f := fun z => nf (by rw [z])
    have ng' : n ≠ g := fun z => ng (by rw [z])
    have hf1 : (S1 ++ (.dct acc :: T))[f]? = some (.dct fs) := by
      rw [List.getElem?_append_left (by rw [hsl]; exact (List.getElem?_eq_some_iff.mp hf).1), ← hS1, List.getElem?_set_ne nf']
      exact hf
    have hg1 : (S1 ++ (.dct acc :: T))[g]? = some (.dct ms) := by
      rw [List.getElem?_append_left (by rw [hsl]; exact (List.getElem?_eq_some_iff.mp hgg).1), ← hS1, List.getElem?_set_ne ng']
      exact hgg
    have hi : i < kvs.length := (List.getElem?_eq_some_iff.mp hp).1
    refine ⟨_, rfl, ?_⟩
    rw [hc]
    fail "go"
    refine (copied_eq hf1 hg1).mono ?_
    rintro _ _ ⟨rfl, rfl⟩
    have hat : (S1 ++ (.dct acc :: T) ++ [O.dct fs, .dct ms])[S1.length]? = some (.dct acc) := by
      rw [List.append_assoc, List.getElem?_append_right (Nat.le_refl _)]
      simp
    have hlim : acc.length < lim := by
      have : lim = 100000 := rfl
      omega
    refine ⟨p.1, acc, key_kD _, hat, hlim, ?_⟩
    have hnew : ∀ r ∈ acc, r.1 ≠ p.1 := by
      intro r hr he
      have h1 : r.1 ∈ (kvs.map (·.1)).take i := by rw [← hak]; exact List.mem_map_of_mem hr
      have h2 : (kvs.map (·.1))[i]? = some p.1 := by rw [List.getElem?_map, hp]; rfl
      rw [he] at h1
      obtain ⟨j, hj⟩ := List.getElem?_of_mem h1
      rw [List.getElem?_take] at hj
      split at hj
      · rename_i hji
        have hlt : j < (kvs.map (·.1)).length := (List.getElem?_eq_some_iff.mp hj).1
        have := (List.getElem?_inj hlt hn).mp (hj.trans h2.symm)
        omega
      · cases hj
    rw [put_new hnew]
    have hL : (S1 ++ (O.dct acc :: T)).length = S.length + 1 + T.length := by
      rw [List.length_append, hsl, List.length_cons]
      omega
    have tail : ∀ (o : O), (S1 ++ (.dct acc :: T) ++ [O.dct fs, .dct ms]).set S1.length o = S1 ++ (o :: (T ++ [O.dct fs, .dct ms])) := by
      intro o
      rw [List.append_assoc, List.set_append_right _ _ (Nat.le_refl _)]
      simp
    have keep : ∀ (o : O) (i : Nat) (x : O), S.length < i → (S1 ++ (.dct acc :: T) ++ [O.dct fs, .dct ms])[i]? = some x → (S1 ++ (o :: (T ++ [O.dct fs, .dct ms])))[i]? = some x := by
      intro o i x hi hx
      rw [← tail, List.getElem?_set_ne (by omega)]
      exact hx
    rw [tail]
    refine ⟨acc ++ [(p.1, .tup [q, m, .ref (S1 ++ (.dct acc :: T)).length, .ref ((S1 ++ (.dct acc :: T)).length + 1)])], T ++ [.dct fs, .dct ms], rfl, by simp [hal], ?_, ?_⟩
    · rw [List.map_append, hak, List.take_add_one, List.getElem?_map, hp]
      rfl
    · intro j r hj hr
      by_cases hji : j < i
      · obtain ⟨q2, h1, h2, h3⟩ := hac j r hji hr
        refine ⟨q2, by rw [List.getElem?_append_left (by omega)]; exact h1, h2, ?_⟩
        refine h3.keep fun i x hi hx => keep _ i x hi ?_
        rw [List.getElem?_append_left (List.getElem?_eq_some_iff.mp hx).1]
        exact hx
      · have : j = i := by omega
        subst this
        rw [hp] at hr
        cases hr
        refine ⟨(p.1, .tup [q, m, .ref (S1 ++ (.dct acc :: T)).length, .ref ((S1 ++ (.dct acc :: T)).length + 1)]), by rw [List.getElem?_append_right (by omega), hal]; simp, rfl, q, m, f, g, (S1 ++ (.dct acc :: T)).length, (S1 ++ (.dct acc :: T)).length + 1, fs, ms, hc, rfl, hf, keep _ _ _ (by omega) ?_, hgg, keep _ _ _ (by omega) ?_, by omega, by omega⟩
        · rw [List.getElem?_append_right (Nat.le_refl _)]
          simp
        · rw [List.getElem?_append_right (by omega)]
          simp
  · rintro S' ⟨acc, T, rfl, hal, hak, hac⟩
    rw [List.length_map] at hal hac hak
    rw [List.take_of_length_le (by rw [List.length_map]; exact Nat.le_refl _)] at hak
    refine ⟨⟨kvs, by rw [List.getElem?_append_left (List.getElem?_eq_some_iff.mp hs).1]; exact hs⟩, ?_⟩
    have hset : (S1 ++ (O.dct acc :: T)).set n (.dct kvs) = S ++ (.dct acc :: T) := by
      rw [List.set_append_left _ _ (by omega), ← hS1, set_back hl]
    rw [hset, hsl]
    fail "go"
    refine ⟨⟨_, rfl⟩, acc, by rw [List.getElem?_append_right (Nat.le_refl _)]; simp, ⟨hal.symm, fun i p hp => ?_⟩, hak⟩
    obtain ⟨q, h1, h2, h3⟩ := hac i p (List.getElem?_eq_some_iff.mp hp).1 hp
    refine ⟨q, h1, h2, h3.keep fun j x hj hx => ?_⟩
    rw [← hset, List.getElem?_set_ne (by omega)]
    exact hx
/-- what makes a program -/
theorem good_of {S : So} {kvs : List (L2.Key × D)} (h : outsK S kvs = true) : ∀ p ∈ kvs, GoodC S p.2 := fun p hp => by
  obtain ⟨q, m, f, g, fs, ms, h1, -, h2, h3, -, -⟩ := out_parts ((outsK_parts h).2.1 p hp).2
  exact ⟨q, _, f, g, fs, ms, h1, h2, h3⟩
theorem badPart_none {S : So} {d body : D} (h : badPart S d body = none) : ∃ n kvs, d = .ref n ∧ S[n]? = some (.dct kvs) ∧ outsK S kvs = true ∧ sB (bodyPl kvs) 1 body = true ∧ badCls S kvs (some (namesK kvs)) (namesK kvs) = none := by
  unfold badPart at h
  split at h
  · rename_i n
    split at h
    · rename_i kvs hl
      split at h
      · rename_i ho
        split at h
        · cases h
        · rename_i hb
          split at h
          · rename_i hs
            exact ⟨n, kvs, rfl, hl, ho, hs, hb⟩
          · cases h
      · cases h
    · cases h
  · cases h
/-- the program's object -/
def Prog (S : So) (k : Nat) (ls : List (L2.Key × D)) (body : D) : Prop := ∃ h, S[k]? = some (.ins "Program" [("held", .ref h), ("body", body)]) ∧ S[h]? = some (.dct ls) ∧ ∀ q ∈ ls, ∃ p m f g fs ms, q.2 = .tup [p, m, .ref f, .ref g] ∧ h < f ∧ h < g ∧ S[f]? = some (.dct fs) ∧ S[g]? = some (.dct ms)
theorem program_eq {d body : D} {S : So} (h : okCs S d) (hb : okD S body) : Wx (m_Program___init__ [.ref S.length, d, body] (S ++ [.ins "Program" []]))
    (fun r S' => r = .non ∧ badPart S d body = none ∧ Ext S S' ∧ ∃ n kvs ls, d = .ref n ∧ S[n]? = some (.dct kvs) ∧ Prog S' S.length ls body ∧ LikeL S S' kvs ls ∧ ls.map (·.1) = kvs.map (·.1))
    (fun c S' => ∃ p, badPart S d body = some p ∧ c = { cls := "BadProgram", fs := [("part", .str p)] } ∧ Ext S S') := by
  unfold m_Program___init__ b_Program___init__
  have e0 : Ext S (S ++ [.ins "Program" []]) := Ext.app Ext.refl
  have hcs : okCs (S ++ [.ins "Program" []]) d := by
    refine ⟨e0.ok h.1, fun n hn => ?_⟩
    rcases h.2 n hn with ⟨l, hl⟩ | ⟨kvs, hl, hnd, hk⟩
    · exact .inl ⟨l, e0.at_ hl⟩
    · exact .inr ⟨kvs, e0.at_ hl, hnd, fun q hq => ⟨e0.ok (hk q hq).1, okC.ext e0 (hk q hq).2.1, (hk q hq).2.2⟩⟩
  have hbp : badPart (S ++ [.ins "Program" []]) d body = badPart S d body := by
    unfold badPart
    cases d with
    | ref n =>
      simp only
      rcases h.2 n rfl with ⟨l, hl⟩ | ⟨kvs, hl, hnd, hk⟩
      · simp only [hl, e0.at_ hl]
      · simp only [hl, e0.at_ hl]
        have hout : outsK (S ++ [.ins "Program" []]) kvs = outsK S kvs := by
          unfold outsK
          have : (kvs.all fun p => nameB (kD p.1) && outB (S ++ [.ins "Program" []]) p.2) = (kvs.all fun p => nameB (kD p.1) && outB S p.2) := by
            rw [Bool.eq_iff_iff, List.all_eq_true, List.all_eq_true]
            have dk : ∀ (f : List (L2.Key × D) → Bool) (x : D), okF S x → dictB f (S ++ [.ins "Program" []]) x = dictB f S x := by
              intro f x hx
              cases x with
              | ref j =>
                rcases hx.2 j rfl with ⟨l, hl⟩ | ⟨k2, hl, -⟩
                · unfold dictB
                  simp only [hl, e0.at_ hl]
                · unfold dictB
                  simp only [hl, e0.at_ hl]
              | _ => rfl
            have key : ∀ p ∈ kvs, outB (S ++ [.ins "Program" []]) p.2 = outB S p.2 := by
              intro p hp
              have := (hk p hp).2.1.2
              unfold outB
              split
              · rename_i q m f g hq
                obtain ⟨hf, hg⟩ := this q m f g hq
                rw [dk _ f hf, dk _ g hg]
              · rfl
            constructor
            · intro hh p hp
              rw [← key p hp]
              exact hh p hp
            · intro hh p hp
              rw [key p hp]
              exact hh p hp
          rw [this]
        rw [hout]
        split
        · rename_i ho
          have hcl : ∀ l : List Str, (∀ x ∈ l, x ∈ namesK kvs) → badCls (S ++ [.ins "Program" []]) kvs (some (namesK kvs)) l = badCls S kvs (some (namesK kvs)) l := by
            intro l
            induction l with
            | nil => intro _; rfl
            | cons x r ih =>
              intro hm
              obtain ⟨q, hq, hv, -⟩ := val_some (fun p hp => ((outsK_parts ho).2.1 p hp).1) (hm x List.mem_cons_self)
              have hc : clsOf kvs x = q.2 := by
                unfold clsOf
                rw [hv]
                rfl
              unfold badCls
              rw [hc, badM_ext e0 ((outsK_parts ho).2.1 q hq).2, ih fun y hy => hm y (List.mem_cons_of_mem _ hy)]
          rw [hcl _ fun x hx => hx]
        · rfl
    | _ => rfl
  refine Wx.fn ?_
  refine Wx.seq ?_
  refine Wx.asgN ?_
  refine Wx.call ?_
  fail "go"
  refine (bad_part_eq hcs (e0.ok hb)).wx.mono ?_ (fun _ _ z => z)
  rintro _ S2 ⟨rfl, e2⟩
  rw [hbp]
  refine Wx.nx ?_
  refine Wx.seq ?_
  refine Wx.if_ ?_
  fail "go"
  refine Wp.op1 notN_opt ?_
  fail "go"
  have eS : Ext S S2 := e0.trans e2
  cases hq : badPart S d body with
  | some p =>
    fail "go"
    refine Wx.raise ?_
    fail "go"
    exact eS
  | none =>
    obtain ⟨n, kvs, rfl, hl, ho, hs, hbc⟩ := badPart_none hq
    fail "go"
    refine (Wp.skip ?_).wx
    refine Wx.nx ?_
    have hnd : (kvs.map (·.1)).Nodup ∧ ∀ p ∈ kvs, ∀ q m f g, p.2 = .tup [q, m, f, g] → f ≠ .ref n ∧ g ≠ .ref n := by
      rcases h.2 n rfl with ⟨l, hl2⟩ | ⟨k2, hl2, hnd, hk⟩
      · rw [hl] at hl2; cases hl2
      · rw [hl] at hl2; cases hl2
        exact ⟨hnd, fun p hp => (hk p hp).2.2⟩
    have hgood : ∀ p ∈ kvs, GoodC S2 p.2 := fun p hp => by
      obtain ⟨q, m, f, g, fs, ms, h1, h2, h3⟩ := good_of ho p hp
      exact ⟨q, m, f, g, fs, ms, h1, eS.at_ h2, eS.at_ h3⟩
    have hself : S2[S.length]? = some (.ins "Program" []) := e2.at_ last_at
    refine Wp.wx ?_
    fail "go"
    refine (copied_classes_eq (eS.at_ hl) hnd.1 (outsK_parts ho).1 hgood hnd.2).mono ?_
    rintro _ S3 ⟨rfl, e3, ls, hls, hlike, hkeys⟩
    fail "go"
    have hself3 := e3.at_ hself
    refine Wp.ok (fst_ins hself3 rfl (by decide)) ?_
    fail "go"
    refine Wp.ok (fst_ins (set_at hself3) rfl (Nat.le_of_ble_eq_true rfl)) ?_
    fail "go"
    have hset : (S3.set S.length (.ins "Program" (putA "held" (.ref S2.length) []))).set S.length (.ins "Program" (putA "body" body (putA "held" (.ref S2.length) []))) = S3.set S.length (.ins "Program" [("held", .ref S2.length), ("body", body)]) := by
      rw [List.set_set]
      rfl
    rw [hset]
    have hlt : S.length < S2.length := (List.getElem?_eq_some_iff.mp hself).1
    refine ⟨?_, n, kvs, ls, rfl, hl, ⟨S2.length, set_at hself3, by rw [List.getElem?_set_ne (by omega)]; exact hls, fun q hq => ?_⟩, ⟨hlike.1, fun i p hp => ?_⟩, hkeys⟩
    · obtain ⟨T, hT⟩ := e2.trans e3
      rw [hT, List.append_assoc, List.set_append_right _ _ (Nat.le_refl _)]
      exact ⟨_, rfl⟩
    · obtain ⟨i, hi⟩ := List.getElem?_of_mem hq
      have hil : i < kvs.length := by rw [hlike.1]; exact (List.getElem?_eq_some_iff.mp hi).1
      obtain ⟨q', h1, h2, p', m, f, g, f', g', fs, ms, c1, c2, d1, d2, d3, d4, d5, d6⟩ := hlike.2 i _ (List.getElem?_eq_getElem hil)
      rw [hi] at h1
      cases h1
      exact ⟨p', m, f', g', fs, ms, c2, d5, d6, by rw [List.getElem?_set_ne (by omega)]; exact d2, by rw [List.getElem?_set_ne (by omega)]; exact d4⟩
    · obtain ⟨q, h1, h2, p', m, f, g, f', g', fs, ms, c1, c2, d1, d2, d3, d4, d5, d6⟩ := hlike.2 i p hp
      obtain ⟨q', m', f'', g'', fs', ms', z1, z2, z3⟩ := good_of ho p (List.mem_of_getElem? hp)
      rw [c1] at z1
      cases z1
      have a1 := eS.at_ z2
      have a2 := eS.at_ z3
      rw [d1] at a1
      rw [d3] at a2
      cases a1
      cases a2
      exact ⟨q, h1, h2, p', m, f, g, f', g', fs, ms, c1, c2, z2, by rw [List.getElem?_set_ne (by omega)]; exact d2, z3, by rw [List.getElem?_set_ne (by omega)]; exact d4, by omega, by omega⟩
theorem Prog.ext {S S' : So} {k : Nat} {ls : List (L2.Key × D)} {body : D} (h : Prog S k ls body) (e : Ext S S') : Prog S' k ls body := by
  obtain ⟨j, h1, h2, h3⟩ := h
  refine ⟨j, e.at_ h1, e.at_ h2, fun q hq => ?_⟩
  obtain ⟨p, m, f, g, fs, ms, c, d1, d2, d3, d4⟩ := h3 q hq
  exact ⟨p, m, f, g, fs, ms, c, d1, d2, e.at_ d3, e.at_ d4⟩
/-- what was copied twice is like what it was copied from -/
theorem like_back {S S1 S2 : So} {ks ls ls2 : List (L2.Key × D)} (e : Ext S S2) (a : LikeL S S1 ks ls) (b : LikeL S1 S2 ls ls2) : LikeK S2 S2 ls2 ks := by
  refine ⟨by rw [← b.1, ← a.1], fun i q2 hq2 => ?_⟩
  have hi : i < ks.length := by rw [a.1, b.1]; exact (List.getElem?_eq_some_iff.mp hq2).1
  obtain ⟨q, h1, h2, p, m, f, g, f', g', fs, ms, c1, c2, d1, d2, d3, d4, -, -⟩ := a.2 i _ (List.getElem?_eq_getElem hi)
  obtain ⟨q3, i1, i2, p', m', f1, g1, f2, g2, fs', ms', j1, j2, k1, k2, k3, k4, -, -⟩ := b.2 i q h1
  rw [hq2] at i1
  cases i1
  rw [c2] at j1
  cases j1
  rw [d2] at k1
  rw [d4] at k3
  cases k1
  cases k3
  exact ⟨_, List.getElem?_eq_getElem hi, (i2.trans h2).symm, p, m, f2, g2, f, g, fs, ms, j2, c1, k2, e.at_ d1, k4, e.at_ d3⟩
/-- Program(..), from outside -/
theorem make_program {ρ : Ro} {S : So} {mr : MA} {Q : D → So → Prop} {E : Exn → So → Prop} (h : Wp (mr ρ S) fun ds S1 => ∃ d body, ds = [d, body] ∧ okCs S1 d ∧ okD S1 body ∧
    (∀ n kvs ls S', badPart S1 d body = none → Ext S1 S' → d = .ref n → S1[n]? = some (.dct kvs) → Prog S' S1.length ls body → LikeL S1 S' kvs ls → ls.map (·.1) = kvs.map (·.1) → Q (.ref S1.length) S') ∧
    (∀ p S', badPart S1 d body = some p → Ext S1 S' → E { cls := "BadProgram", fs := [("part", .str p)] } S')) : Wx (mMake "Program" m_Program___init__ 3 [] mr ρ S) Q E :=
  Wx.make (h.mono fun ds S1 ⟨d, body, e, hc, hb, h1, h2⟩ => by
    subst e
    refine ⟨rfl, (program_eq hc hb).mono ?_ ?_⟩
    · rintro _ S' ⟨rfl, a, e, n, kvs, ls, rfl, b, c, d, f⟩
      exact ⟨rfl, h1 n kvs ls S' a e rfl b c d f⟩
    · rintro c S' ⟨p, a, rfl, e⟩
      exact h2 p S' a e)
end Mkk02
namespace Mkk02
open PySem Mi
theorem program_classes_eq {S : So} {k : Nat} {ls : List (L2.Key × D)} {body : D} (h : Prog S k ls body) (hn : (ls.map (·.1)).Nodup) (hl : ls.length ≤ 8) : Wp (m_Program_classes [.ref k] S) (fun r S' => r = .ref S.length ∧ Ext S S' ∧ ∃ ls2, S'[S.length]? = some (.dct ls2) ∧ LikeL S S' ls ls2 ∧ ls2.map (·.1) = ls.map (·.1)) := by
  obtain ⟨j, h1, h2, h3⟩ := h
  unfold m_Program_classes b_Program_classes
  fail "go"
  refine (copied_classes_eq h2 hn hl (fun p hp => ?_) fun p hp q m f g e => ?_).mono ?_
  · obtain ⟨p', m, f, g, fs, ms, c, -, -, d3, d4⟩ := h3 p hp
    exact ⟨p', m, f, g, fs, ms, c, d3, d4⟩
  · obtain ⟨p', m', f', g', fs, ms, c, d1, d2, -, -⟩ := h3 p hp
    rw [c] at e
    cases e
    exact ⟨by simp; omega, by simp; omega⟩
  · rintro _ S' ⟨rfl, e, ls2, a, b, c⟩
    fail "go"
    exact ⟨e, ls2, a, b, c⟩
/-- the classes of a program are equal to those that it was made of -/
theorem classes_same {S S' : So} {k n : Nat} {kvs ls : List (L2.Key × D)} {body : D} (hn : S[n]? = some (.dct kvs)) (e : Ext S S') (hprog : Prog S' k ls body) (hlike : LikeL S S' kvs ls) (hkeys : ls.map (·.1) = kvs.map (·.1)) (hnd : (kvs.map (·.1)).Nodup) (hlen : kvs.length ≤ 8)
    (hflat : ∀ p ∈ kvs, ∀ q m f g fs ms, p.2 = .tup [q, m, .ref f, .ref g] → S[f]? = some (.dct fs) → S[g]? = some (.dct ms) → (flat q = true ∧ dep q ≤ 1) ∧ (flat m = true ∧ dep m ≤ 1) ∧ FlatK 60 fs ∧ FlatK 60 ms) :
    Wp (m_Program_classes [.ref k] S') (fun r S2 => eqD r (.ref n) S2 = .ok (.bl true) S2) := by
  refine (program_classes_eq hprog (by rw [hkeys]; exact hnd) (by rw [← hlike.1]; exact hlen)).mono ?_
  rintro _ S7 ⟨rfl, e7, ls2, q1, q2, q3⟩
  have eS := e.trans e7
  have hb := like_back eS hlike q2
  refine eqD_like q1 (eS.at_ hn) hnd hb ?_
  intro p hp q m f' g' fs ms hpe hf' hg'
  obtain ⟨i, hi⟩ := List.getElem?_of_mem hp
  obtain ⟨r, hr, -, p', m', f1, g1, f2, g2, fs', ms', c1, c2, d1, d2, d3, d4⟩ := hb.2 i p hi
  rw [hpe] at c1
  cases c1
  rw [hf'] at d1
  rw [hg'] at d3
  cases d1
  cases d3
  obtain ⟨r', hr', -, p3, m3, f3, g3, f4, g4, fs3, ms3, j1, j2, k1, k2, k3, k4, -, -⟩ := hlike.2 i r hr
  rw [c2] at j1
  cases j1
  rw [eS.at_ k1] at d2
  rw [eS.at_ k3] at d4
  cases d2
  cases d4
  exact hflat r (List.mem_of_getElem? hr) _ _ _ _ _ _ c2 k1 k3
end Mkk02
namespace Mkk02
open PySem Mi
/-! what stands where, by first word and number of parts -/
def tab : List (Str × Nat) := [("none", 0), ("me", 0), ("word", 1), ("name", 1), ("field", 1), ("new", 1), ("fn", 2), ("call", 2), ("ask", 3), ("parent", 2), ("same", 2), ("not", 1), ("both", 2), ("either", 2), ("if", 3), ("while", 2), ("let", 2), ("set", 2), ("keep", 2), ("print", 1), ("return", 1), ("do", 1), ("raise", 1), ("try", 3), ("last", 2)]
theorem sR_tab {c : Bool} {pl : Pl} {k : Int} {h : Str} {args : List D} (q : sR c pl k (.tup (.str h :: args)) = true) : (h, args.length) ∈ tab := by
  unfold sR at q
  split at q
  · rename_i e; rw [beq_iff_eq] at e; subst e
    cases args with
    | nil => decide
    | cons a r => cases q
  split at q
  · rename_i e; rw [beq_iff_eq] at e; subst e
    cases args with
    | nil => decide
    | cons a r => cases q
  split at q
  · rename_i e; rw [beq_iff_eq] at e; subst e
    split at q
    · show ((("fn" : Str), 2) : Str × Nat) ∈ tab
      decide
    · cases q
  split at q
  · rename_i e; rw [Bool.and_eq_true, beq_iff_eq] at e; obtain ⟨-, rfl⟩ := e
    split at q
    · show ((("call" : Str), 2) : Str × Nat) ∈ tab
      decide
    · cases q
  split at q
  · rename_i e; rw [Bool.and_eq_true, beq_iff_eq] at e; obtain ⟨-, rfl⟩ := e
    split at q
    · show ((("ask" : Str), 3) : Str × Nat) ∈ tab
      decide
    · cases q
  split at q
  · rename_i e; rw [Bool.and_eq_true, beq_iff_eq] at e; obtain ⟨-, rfl⟩ := e
    split at q
    · show ((("parent" : Str), 2) : Str × Nat) ∈ tab
      decide
    · cases q
  split at q
  · split at q
    · rename_i e; rw [beq_iff_eq] at e; subst e
      show ((("field" : Str), 1) : Str × Nat) ∈ tab
      decide
    split at q
    · rename_i e; rw [beq_iff_eq] at e; subst e
      show ((("new" : Str), 1) : Str × Nat) ∈ tab
      decide
    rw [Bool.and_eq_true, Bool.or_eq_true, beq_iff_eq, beq_iff_eq] at q
    rcases q.1 with rfl | rfl
    · show ((("word" : Str), 1) : Str × Nat) ∈ tab
      decide
    · show ((("name" : Str), 1) : Str × Nat) ∈ tab
      decide
  · cases q
theorem sT_tab {l : Nat} {pl : Pl} {k : Int} {h : Str} {args : List D} (q : sT l pl k (.tup (.str h :: args)) = true) : (h, args.length) ∈ tab := by
  unfold sT at q
  split at q
  · cases q
  split at q
  · rename_i e; rw [beq_iff_eq] at e; subst e
    split at q
    · show ((("same" : Str), 2) : Str × Nat) ∈ tab
      decide
    · cases q
  split at q
  · rename_i e; rw [beq_iff_eq] at e; subst e
    split at q
    · show ((("not" : Str), 1) : Str × Nat) ∈ tab
      decide
    · cases q
  split at q
  · rename_i e; rw [Bool.or_eq_true, beq_iff_eq, beq_iff_eq] at e
    split at q
    · rcases e with rfl | rfl
      · show ((("both" : Str), 2) : Str × Nat) ∈ tab
        decide
      · show ((("either" : Str), 2) : Str × Nat) ∈ tab
        decide
    · cases q
  · cases q
theorem sS_tab {pl : Pl} {k : Int} {h : Str} {args : List D} (q : sS pl k (.tup (.str h :: args)) = true) : (h, args.length) ∈ tab := by
  unfold sS at q
  split at q
  · rename_i e; rw [Bool.or_eq_true, beq_iff_eq, beq_iff_eq] at e
    split at q
    · rcases e with rfl | rfl
      · show ((("let" : Str), 2) : Str × Nat) ∈ tab
        decide
      · show ((("set" : Str), 2) : Str × Nat) ∈ tab
        decide
    · cases q
  split at q
  · rename_i e; rw [beq_iff_eq] at e; subst e
    split at q
    · show ((("keep" : Str), 2) : Str × Nat) ∈ tab
      decide
    · cases q
  split at q
  · rename_i e; rw [beq_iff_eq] at e; subst e
    split at q
    · show ((("print" : Str), 1) : Str × Nat) ∈ tab
      decide
    · cases q
  split at q
  · rename_i e; rw [beq_iff_eq] at e; subst e
    split at q
    · show ((("return" : Str), 1) : Str × Nat) ∈ tab
      decide
    · cases q
  split at q
  · rename_i e; rw [Bool.or_eq_true, beq_iff_eq, beq_iff_eq] at e
    split at q
    · rcases e with rfl | rfl
      · show ((("do" : Str), 1) : Str × Nat) ∈ tab
        decide
      · show ((("raise" : Str), 1) : Str × Nat) ∈ tab
        decide
    · cases q
  split at q
  · rename_i e; rw [beq_iff_eq] at e; subst e
    split at q
    · show ((("if" : Str), 3) : Str × Nat) ∈ tab
      decide
    · cases q
  split at q
  · rename_i e; rw [beq_iff_eq] at e; subst e
    split at q
    · show ((("while" : Str), 2) : Str × Nat) ∈ tab
      decide
    · cases q
  split at q
  · rename_i e; rw [beq_iff_eq] at e; subst e
    split at q
    · show ((("try" : Str), 3) : Str × Nat) ∈ tab
      decide
    · cases q
  split at q
  · rename_i e; rw [beq_iff_eq] at e; subst e
    split at q
    · show ((("last" : Str), 2) : Str × Nat) ∈ tab
      decide
    · cases q
  · cases q
/-- nothing that may stand anywhere -/
structure Wrong (d : D) : Prop where
  r : ∀ c pl k, sR c pl k d = false
  t : ∀ l pl k, sT l pl k d = false
  s : ∀ pl k, sS pl k d = false
theorem wrong_tab {h : Str} {args : List D} (q : (h, args.length) ∉ tab) : Wrong (.tup (.str h :: args)) :=
  ⟨fun c pl k => by cases e : sR c pl k (.tup (.str h :: args)) <;> first | rfl | exact absurd (sR_tab e) q,
   fun c pl k => by cases e : sT c pl k (.tup (.str h :: args)) <;> first | rfl | exact absurd (sT_tab e) q,
   fun pl k => by cases e : sS pl k (.tup (.str h :: args)) <;> first | rfl | exact absurd (sS_tab e) q⟩
theorem wrong_no {d : D} (h : ∀ x ds, d ≠ .tup (.str x :: ds)) : Wrong d := by
  have key : ∀ (c : Bool) (l : Nat) (pl : Pl) (k : Int), sR c pl k d = false ∧ sT l pl k d = false ∧ sS pl k d = false := by
    intro c l pl k
    cases d with
    | tup ds =>
      cases ds with
      | nil => simp [sR, sT, sS]
      | cons x ds =>
        cases x with
        | str y => exact absurd rfl (h y ds)
        | _ => simp [sR, sT, sS]
    | _ => simp [sR, sT, sS]
  exact ⟨fun c pl k => (key c 0 pl k).1, fun l pl k => (key true l pl k).2.1, fun pl k => (key true 0 pl k).2.2⟩
/-- a part as it is built -/
def Shape (d : D) : Prop := ∃ h args, d = .tup (.str h :: args) ∧ (h, args.length) ∈ tab ∧ args.length ≤ 3
theorem more_wrong {h : Str} {args : List D} {x : D} (q : (h, args.length) ∈ tab) : Wrong (.tup (.str h :: args ++ [x])) := by
  have key : ∀ p ∈ tab, (p.1, p.2 + 1) ∉ tab := by decide +kernel
  have := key _ q
  exact wrong_tab (args := args ++ [x]) (by rw [List.length_append]; exact this)
theorem less_wrong {h : Str} {args : List D} (q : (h, args.length) ∈ tab) : Wrong (.tup (.str h :: args).dropLast) := by
  have key : ∀ p ∈ tab, (p.1, p.2 - 1) ∉ tab ∨ p.2 = 0 := by decide +kernel
  cases args with
  | nil => exact wrong_no fun x ds e => by cases e
  | cons a r =>
    rcases key _ q with k | k
    · have e : (D.str h :: a :: r).dropLast = D.str h :: (a :: r).dropLast := rfl
      rw [e]
      exact wrong_tab (by rw [List.length_dropLast]; exact k)
    · simp at k
theorem ss_wrong {h : Str} {args : List D} (q : (h, args.length) ∈ tab) : Wrong (.tup (.str (h ++ "s") :: args)) := by
  have key : ∀ p ∈ tab, (p.1 ++ "s", p.2) ∉ tab := by decide +kernel
  exact wrong_tab (key _ q)
theorem tab_len {h : Str} {n : Nat} (q : (h, n) ∈ tab) : h.length ≤ 6 := by
  have key : ∀ p ∈ tab, p.1.length ≤ 6 := by decide +kernel
  exact key _ q
/-! the tools -/
structure Tl where
  method : Bool
  room : Int
  done : Bool
  at_ : Int
  kind : Int
  value : D
def Tl.K (n : Tl) : List (L2.Key × D) := [(.inr "method", .bl n.method), (.inr "room", .int n.room), (.inr "done", .bl n.done), (.inr "at", .int n.at_), (.inr "kind", .int n.kind), (.inr "value", n.value)]
structure W (s t j : Nat) (n : Tl) (S : So) : Prop where
  st : StB s t S
  sn : S[j]? = some (.dct n.K)
  ne : j ≠ s
  ne' : j ≠ t
  kd : 0 ≤ n.kind ∧ n.kind < 6
  vok : okD S n.value
  vbad : Wrong n.value
/-- the tools of the same kind -/
def Tl.Like (m n : Tl) : Prop := m.method = n.method ∧ m.kind = n.kind ∧ m.value = n.value
theorem Tl.Like.refl {n : Tl} : n.Like n := ⟨rfl, rfl, rfl⟩
theorem Tl.Like.trans {a b c : Tl} (h : a.Like b) (g : b.Like c) : a.Like c := ⟨h.1.trans g.1, h.2.1.trans g.2.1, h.2.2.trans g.2.2⟩
section
variable {s t j : Nat} {n m : Tl} {S S' : So}
def Gr2 (s j : Nat) (S S' : So) : Prop := S.length ≤ S'.length ∧ (∀ i, i < S.length → i ≠ s → i ≠ j → S'[i]? = S[i]?) ∧ (∀ d, okD S d → okD S' d)
theorem Gr2.refl : Gr2 s j S S := ⟨Nat.le_refl _, fun _ _ _ _ => rfl, fun _ h => h⟩
theorem Gr2.trans {S1 S2 : So} (a : Gr2 s j S S1) (b : Gr2 s j S1 S2) : Gr2 s j S S2 := ⟨Nat.le_trans a.1 b.1, fun n h1 h2 h3 => (b.2.1 n (Nat.lt_of_lt_of_le h1 a.1) h2 h3).trans (a.2.1 n h1 h2 h3), fun d h => b.2.2 d (a.2.2 d h)⟩
theorem ty_same {i : Nat} {ty : Ty} (h : S'[i]? = S[i]?) (q : tyO S (.ref i) = some ty) : tyO S' (.ref i) = some ty := by
  unfold tyO at q ⊢
  simp only [h]
  exact q
theorem Gr2.keep (st : StB s t S) (st' : StB s t S') (k : Keep s S S') : Gr2 s j S S' := by
  obtain ⟨cs, i, c, d, h⟩ := st
  obtain ⟨cs', i', c', d', h'⟩ := st'
  refine ⟨Nat.le_of_eq k.1.symm, fun n _ h2 _ => k.2 n h2, fun d hd => okD_ty (fun n ty q => ?_) hd⟩
  by_cases hn : n = s
  · subst hn
    exact ⟨.lst, tyr_lst h'.at_⟩
  · exact ⟨ty, ty_same (k.2 n hn) q⟩
theorem Gr2.app {T : So} : Gr2 s j S (S ++ T) := ⟨by rw [List.length_append]; omega, fun n h1 _ _ => List.getElem?_append_left h1, fun d h => Ext.ok (Ext.app Ext.refl) h⟩
theorem Gr2.put {kvs ls : List (L2.Key × D)} (h : S[j]? = some (.dct kvs)) : Gr2 s j S (S.set j (.dct ls)) := ⟨by rw [List.length_set]; exact Nat.le_refl _, fun n _ _ h => List.getElem?_set_ne (Ne.symm h), fun d hd => okD_ty (fun n ty q => by
  by_cases hn : n = j
  · subst hn
    exact ⟨.dct, tyr_dct (set_at h)⟩
  · exact ⟨ty, ty_same (List.getElem?_set_ne (Ne.symm hn)) q⟩) hd⟩
theorem W.keep (h : W s t j n S) (a : StB s t S') (k : Keep s S S') : W s t j n S' := ⟨a, (k.2 _ h.ne).trans h.sn, h.ne, h.ne', h.kd, (Gr2.keep (j := j) h.st a k).2.2 _ h.vok, h.vbad⟩
theorem W.gk (h : W s t j n S) (a : StB s t S') (k : Keep s S S') : Gr2 s j S S' := Gr2.keep h.st a k
theorem W.app {T : So} (h : W s t j n S) : W s t j n (S ++ T) := ⟨h.st.app, by rw [List.getElem?_append_left (List.getElem?_eq_some_iff.mp h.sn).1]; exact h.sn, h.ne, h.ne', h.kd, Ext.ok (Ext.app Ext.refl) h.vok, h.vbad⟩
theorem W.put (h : W s t j n S) (hl : m.Like n) : W s t j m (S.set j (.dct m.K)) ∧ Gr2 s j S (S.set j (.dct m.K)) :=
  have g : Gr2 s j S (S.set j (.dct m.K)) := Gr2.put h.sn
  ⟨⟨h.st.set h.ne h.ne', set_at h.sn, h.ne, h.ne', by rw [hl.2.1]; exact h.kd, g.2.2 _ (by rw [hl.2.2]; exact h.vok), by rw [hl.2.2]; exact h.vbad⟩, g⟩
theorem W.lt (h : W s t j n S) : s < S.length ∧ t < S.length ∧ j < S.length := ⟨h.st.lt.1, h.st.lt.2, (List.getElem?_eq_some_iff.mp h.sn).1⟩
theorem ix_method (h : W s t j n S) : ixD (.ref j) (.str "method") S = .ok (.bl n.method) S := ix_dct (k := .inr "method") h.sn rfl rfl
theorem ix_room (h : W s t j n S) : ixD (.ref j) (.str "room") S = .ok (.int n.room) S := ix_dct (k := .inr "room") h.sn rfl rfl
theorem ix_kind (h : W s t j n S) : ixD (.ref j) (.str "kind") S = .ok (.int n.kind) S := ix_dct (k := .inr "kind") h.sn rfl rfl
theorem ix_value (h : W s t j n S) : ixD (.ref j) (.str "value") S = .ok n.value S := ix_dct (k := .inr "value") h.sn rfl rfl
/-- a hit, or none -/
def Hit (n m : Tl) (b : Bool) : Prop := m.Like n ∧ m.done = (n.done || b) ∧ (b = true → n.done = false)
theorem hit_eq (h : W s t j n S) : Wp (m_law_hit [.ref j] S) (fun r S' => ∃ b m, r = .bl b ∧ W s t j m S' ∧ Gr2 s j S S' ∧ Hit n m b) := by
  unfold m_law_hit b_law_hit
  fail "go"
  have hg : gixO S (.ref j) (.str "at") = some (.int n.at_) := by
    unfold gixO vw
    simp only [h.sn]
    rfl
  refine ⟨_, hg, ?_⟩
  fail "go"
  refine Wp.ok (set_dct (k := .inr "at") h.sn rfl (show 6 < lim by decide)) ?_
  have hp : putD n.K (.inr "at") (.int (n.at_ - 1)) = ({ n with at_ := n.at_ - 1 } : Tl).K := rfl
  rw [hp]
  obtain ⟨h', g'⟩ := W.put (m := { n with at_ := n.at_ - 1 }) h ⟨rfl, rfl, rfl⟩
  have i1 : ixD (.ref j) (.str "at") _ = .ok (.int (n.at_ - 1)) _ := ix_dct (k := .inr "at") h'.sn rfl rfl
  have i2 : ixD (.ref j) (.str "done") _ = .ok (.bl n.done) _ := ix_dct (k := .inr "done") h'.sn rfl rfl
  fail "go"
  refine Wp.op2 i1 ?_
  fail "go"
  refine ⟨fun hb => ?_, fun hb => ?_⟩
  · fail "go"
    refine Wp.op2 i2 ?_
    fail "go"
    refine ⟨fun hd => ?_, fun hd => ?_⟩
    · have hd : n.done = false := by simpa using hd
      fail "go"
      refine Wp.ok (set_dct (k := .inr "done") h'.sn rfl (show 6 < lim by decide)) ?_
      have hp2 : putD ({ n with at_ := n.at_ - 1 } : Tl).K (.inr "done") (.bl true) = ({ n with at_ := n.at_ - 1, done := true } : Tl).K := rfl
      rw [hp2]
      obtain ⟨h2, g2⟩ := W.put (m := { n with at_ := n.at_ - 1, done := true }) h' ⟨rfl, rfl, rfl⟩
      fail "go"
      exact ⟨g'.trans g2, ⟨rfl, rfl, rfl⟩, by simp, fun _ => hd⟩
    · fail "go"
      exact ⟨g', ⟨rfl, rfl, rfl⟩, by simp, fun z => by cases z⟩
  · fail "go"
    exact ⟨g', ⟨rfl, rfl, rfl⟩, by simp, fun z => by cases z⟩
theorem list_tup {ds : List D} : listD [.tup ds] S = .ok (.ref S.length) (S ++ [.lst ds]) := rfl
theorem last_ok {ds : List D} : okD (S ++ [.lst ds]) (.ref S.length) := ⟨.lst, tyr_lst last_at⟩
theorem cut_last {ds : List D} : cutD ds none (some (-1)) = ds.dropLast := by
  unfold cutD HT.sIx
  rw [List.dropLast_eq_take]
  have : ((-1 : Int) + (ds.length : Int)).toNat = ds.length - 1 := by omega
  simp [this]
/-- what a part comes to -/
theorem part_eq {r0 : D} (h : W s t j n S) (hs : Shape r0) (ho : okD S r0) : Wp (m_law_part [.ref j, r0] S) (fun r S' => ∃ b m, Gr2 s j S S' ∧ W s t j m S' ∧ Hit n m b ∧ okD S' r ∧ ((b = false ∧ r = r0) ∨ (b = true ∧ Wrong r))) := by
  obtain ⟨hd, args, rfl, htab, hal⟩ := hs
  have hlim : lim = 100000 := rfl
  unfold m_law_part b_law_part
  fail "go"
  refine (hit_eq h).mono ?_
  rintro _ S1 ⟨b, m, rfl, h1, g1, hh⟩
  have ho1 := g1.2.2 _ ho
  fail "go"
  refine ⟨fun hb => ?_, fun hb => ?_⟩
  · have hb : b = false := by simpa using hb
    fail "go"
    exact ⟨b, m, g1, h1, hh, ho1, .inl ⟨hb, rfl⟩⟩
  have hb : b = true := by simpa using hb
  have oargs : okL S1 args := by
    have := ho1
    simp only [okD, okL] at this
    exact this.2
  have k6 := h1.kd
  have hk : m.kind = 0 ∨ m.kind = 1 ∨ m.kind = 2 ∨ m.kind = 3 ∨ m.kind = 4 ∨ m.kind = 5 := by omega
  have ik := ix_kind h1
  rcases hk with hk | hk | hk | hk | hk | hk
  all_goals rw [hk] at ik
  all_goals fail "go"
  all_goals refine Wp.op2 ik ?_
  all_goals fail "go"
  · refine Wp.opL list_tup ?_
    fail "go"
    exact ⟨b, m, g1.trans Gr2.app, h1.app, hh, last_ok, .inr ⟨hb, wrong_no fun x ds e => by cases e⟩⟩
  · refine Wp.op2 ik ?_
    fail "go"
    refine Wp.op2 (add_tup (by simp; omega)) ?_
    fail "go"
    refine ⟨b, m, g1, h1, hh, ?_, .inr ⟨hb, more_wrong htab⟩⟩
    simp only [okD, okL, List.cons_append, okL_app] at ho1 ⊢
    exact ⟨ho1.1, oargs, by decide, trivial⟩
  · refine Wp.op2 ik ?_
    fail "go"
    refine Wp.op2 ik ?_
    fail "go"
    refine Wp.ok sl_tup ?_
    fail "go"
    rw [show (-1 : Int) = -1 from rfl, cut_last]
    refine ⟨b, m, g1, h1, hh, ?_, .inr ⟨hb, less_wrong htab⟩⟩
    unfold okD at ho1 ⊢
    rw [okL_all] at ho1 ⊢
    exact fun x hx => ho1 x (List.dropLast_subset _ hx)
  · refine Wp.op2 ik ?_
    fail "go"
    refine Wp.op2 ik ?_
    fail "go"
    refine Wp.op2 ik ?_
    fail "go"
    have l6 := tab_len htab
    have l1 : (("s" : Str)).length = 1 := rfl
    refine Wp.op2 (add_str (by omega)) ?_
    fail "go"
    refine Wp.ok sl_tup ?_
    have hc : cutD (.str hd :: args) (some 1) none = args := by
      have := cut_hi (ds := .str hd :: args) (i := 1) (by simp)
      exact this
    rw [hc]
    refine Wp.op2 (add_tup (by simp; omega)) ?_
    fail "go"
    refine ⟨b, m, g1, h1, hh, ?_, .inr ⟨hb, ss_wrong htab⟩⟩
    simp only [okD, okL, List.cons_append, List.nil_append]
    refine ⟨?_, oargs⟩
    have : (hd ++ ("s" : Str)).length = hd.length + ("s" : Str).length := by
      show (hd.cps ++ _).size = _
      exact Array.size_append
    omega
  · refine Wp.op2 ik ?_
    fail "go"
    refine Wp.op2 ik ?_
    fail "go"
    refine Wp.op2 ik ?_
    fail "go"
    refine Wp.op2 ik ?_
    fail "go"
    refine Wp.op2 (ix_value h1) ?_
    fail "go"
    exact ⟨b, m, g1, h1, hh, h1.vok, .inr ⟨hb, h1.vbad⟩⟩
  · refine Wp.op2 ik ?_
    fail "go"
    refine Wp.op2 ik ?_
    fail "go"
    refine Wp.op2 ik ?_
    fail "go"
    refine Wp.op2 ik ?_
    fail "go"
    refine ⟨b, m, g1, h1, hh, ?_, .inr ⟨hb, wrong_no fun x ds e => by cases e⟩⟩
    simp only [okD, okL, and_true] at ho1 ⊢
    exact ho1
end
end Mkk02
namespace Mkk02
open PySem Mi
section
variable {s t j : Nat} {n m : Tl} {S S' : So}
theorem cut_low {ds : List D} {i : Nat} : cutD ds none (some (i : Int)) = ds.take i := by
  unfold cutD HT.sIx
  have : ¬ ((i : Int) < 0) := by omega
  simp only [this, if_false, Int.toNat_natCast, List.drop_zero, Nat.sub_zero]
  by_cases h : i ≤ ds.length
  · rw [Nat.min_eq_left h]
  · rw [Nat.min_eq_right (by omega), List.take_length, List.take_of_length_le (by omega)]
theorem name_eq' {S : So} (hst : StB s t S) : Wp (m_law_name [.ref s] S) (fun r S' => ∃ x, r = .str x ∧ nameS x = true ∧ StB s t S' ∧ Grw s S S') := by
  unfold m_law_name b_law_name
  have hs := hst.lt
  fail "go"
  refine draw_at hst (by decide) (by decide) ?_
  intro k S1 k0 k1 hst1 g1
  have hl1 : S1.length = S.length := g1.1
  have hs1 := hst1.lt
  fail "go"
  refine Wp.lcV ?_
  fail "go"
  refine ⟨⟨by have : lim = 100000 := rfl; omega, by omega⟩, _, rfl, fun i S' => StB s t S' ∧ Grw s S1 S' ∧ ∃ cs : List Nat, S'[S1.length]? = some (.lst (cs.map fun c => D.str (oneS c))) ∧ cs.length = i ∧ ∀ c ∈ cs, okCh c, ?_, ?_, ?_⟩
  · exact ⟨hst1.app, Grw.app, [], last_at, rfl, fun c hc => by cases hc⟩
  · rintro i d S2 hd ⟨h2, g2, cs, hcs, hcl, hco⟩
    refine ⟨_, rfl, ?_⟩
    fail "go"
    refine draw_at h2 (by decide) (by decide) ?_
    intro a S3 a0 a1 h3 g3
    obtain ⟨c, hc, ec⟩ := ix_alpha (S := S3) a0 a1
    refine Wp.op2 ec ?_
    have hi : i < 9 := by
      have := (List.getElem?_eq_some_iff.mp hd).1
      simp at this
      omega
    have hcs3 : S3[S1.length]? = some (.lst (cs.map fun c => D.str (oneS c))) := (g3.2 _ (by omega)).trans hcs
    refine ⟨_, hcs3, by have : lim = 100000 := rfl; rw [List.length_map]; omega, h3.set (by omega) (by omega), Grw.set (g2.trans (Grw.keep g3)) (Nat.le_refl _), cs ++ [c], ?_, by rw [List.length_append, hcl]; rfl, ?_⟩
    · rw [set_at hcs3, List.map_append]
      rfl
    · intro x hx
      rcases List.mem_append.mp hx with hx | hx
      · exact hco x hx
      · rcases List.mem_singleton.mp hx with rfl
        exact hc
  · rintro S2 ⟨h2, g2, cs, hcs, hcl, hco⟩
    have hlen : cs.length = (1 + k).toNat := by rw [hcl]; simp
    fail "go"
    have hseq : seqO S2 (.ref S1.length) = some (cs.map fun c => D.str (oneS c)) := by
      unfold seqO vw
      simp only [hcs]
    refine Wp.ok (join_of hseq (strs_ones cs) ?_ (join_ones cs)) ?_
    · have h0 : (("" : Str)).length = 0 := rfl
      rw [ones_sum, h0, Nat.mul_zero]
      have : lim = 100000 := rfl
      omega
    · fail "go"
      exact ⟨name_of hco (by omega) (by omega), h2, (Grw.keep g1).trans g2⟩
/-- what a row comes to when it is hit -/
def RowBad (ds ms os : List D) (r : D) : Prop := (∃ q, r = .ref q) ∨ r = .tup ((ds ++ ms).take 4) ∨ r = .tup (ds.take 1 ++ os)
theorem row_eq {ds ms os : List D} (h : W s t j n S) (ho : okL S ds) (hm : okL S ms) (hos : okL S os) (hd3 : ds.length ≤ 3) (hm4 : ms.length ≤ 4) (hos4 : os.length ≤ 4) :
    Wp (m_law_row [.ref j, .tup ds, .tup ms, .tup os] S) (fun r S' => ∃ b m, Gr2 s j S S' ∧ W s t j m S' ∧ Hit n m b ∧ okD S' r ∧ ((b = false ∧ r = .tup ds) ∨ (b = true ∧ RowBad ds ms os r))) := by
  have hlim : lim = 100000 := rfl
  unfold m_law_row b_law_row
  fail "go"
  refine (hit_eq h).mono ?_
  rintro _ S1 ⟨b, m, rfl, h1, g1, hh⟩
  have up : ∀ l, okL S l → okL S1 l := fun l hl => by
    have := g1.2.2 (.tup l) (by unfold okD; exact hl)
    unfold okD at this
    exact this
  have o1 := up _ ho
  have o2 := up _ hm
  have o3 := up _ hos
  fail "go"
  refine ⟨fun hb => ?_, fun hb => ?_⟩
  · have hb : b = false := by simpa using hb
    fail "go"
    exact ⟨b, m, g1, h1, hh, by unfold okD; exact o1, .inl ⟨hb, rfl⟩⟩
  have hb : b = true := by simpa using hb
  have ik := ix_kind h1
  fail "go"
  refine Wp.op2 ik ?_
  fail "go"
  refine ⟨fun hk => ?_, fun hk => ?_⟩
  · fail "go"
    refine Wp.opL list_tup ?_
    fail "go"
    exact ⟨b, m, g1.trans Gr2.app, h1.app, hh, last_ok, .inr ⟨hb, .inl ⟨_, rfl⟩⟩⟩
  fail "go"
  refine Wp.op2 ik ?_
  fail "go"
  refine ⟨fun hk => ?_, fun hk => ?_⟩
  · fail "go"
    refine Wp.op2 (add_tup (by omega)) ?_
    fail "go"
    refine Wp.ok sl_tup ?_
    have e4 : cutD (ds ++ ms) none (some 4) = (ds ++ ms).take 4 := cut_low (i := 4)
    rw [e4]
    fail "go"
    refine ⟨b, m, g1, h1, hh, ?_, .inr ⟨hb, .inr (.inl rfl)⟩⟩
    unfold okD
    rw [okL_all]
    intro x hx
    exact okL_all.mp (okL_app.mpr ⟨o1, o2⟩) x (List.mem_of_mem_take hx)
  · fail "go"
    refine Wp.ok sl_tup ?_
    have e1 : cutD ds none (some 1) = ds.take 1 := cut_low (i := 1)
    rw [e1]
    fail "go"
    refine Wp.op2 (add_tup (by rw [List.length_take]; omega)) ?_
    fail "go"
    refine ⟨b, m, g1, h1, hh, ?_, .inr ⟨hb, .inr (.inr rfl)⟩⟩
    unfold okD
    rw [okL_app]
    exact ⟨okL_all.mpr fun x hx => okL_all.mp o1 x (List.mem_of_mem_take hx), o3⟩
/-- a part's result: fine, or hit -/
def Res (f : D → Bool) (s t j : Nat) (n : Tl) (S : So) (r : D) (S' : So) : Prop := ∃ b m, Gr2 s j S S' ∧ W s t j m S' ∧ Hit n m b ∧ okD S' r ∧ f r = !b
theorem params_eq (h : W s t j n S) : Wp (m_law_params [.ref s, .ref j] S) (fun r S' => Res (namesB 3) s t j n S r S') := by
  unfold m_law_params b_law_params
  have hs := h.lt
  fail "go"
  refine pick_at h.st (by rfl) (by decide) (by decide) ?_
  intro z S1 hz hst1 g1
  have g1' : Gr2 s j S S1 := by
    refine ⟨g1.1, fun i a b _ => g1.2 i a b, fun d hd => okD_ty (fun i ty q => ?_) hd⟩
    by_cases hi : i = s
    · subst hi
      obtain ⟨cs, i', c, d', h'⟩ := hst1
      exact ⟨.lst, tyr_lst h'.at_⟩
    · have hil : i < S.length := by
        unfold tyO at q
        simp only at q
        split at q <;> first | (rename_i e; exact (List.getElem?_eq_some_iff.mp e).1) | cases q
      exact ⟨ty, ty_same (g1.2 i hil hi) q⟩
  have h1 : W s t j n S1 := ⟨hst1, g1.at_ h.sn h.ne, h.ne, h.ne', h.kd, g1'.2.2 _ h.vok, h.vbad⟩
  have hz' : ∃ ds, z = .tup ds ∧ okL S1 ds ∧ ds.length ≤ 3 ∧ namesB 3 (.tup ds) = true ∧ namesB 3 (.tup ((ds ++ [D.str "p", .str "q", .str "r", .str "s"]).take 4)) = false ∧ namesB 3 (.tup (ds.take 1 ++ [D.str "x", .str "x"])) = false := by
    simp only [List.mem_cons, List.not_mem_nil, or_false] at hz
    rcases hz with rfl | rfl | rfl | rfl | rfl
    · exact ⟨_, rfl, by simp only [okD, okL]; decide, by decide, by decide +kernel, by decide +kernel, by decide +kernel⟩
    · exact ⟨_, rfl, by simp only [okD, okL]; decide, by decide, by decide +kernel, by decide +kernel, by decide +kernel⟩
    · exact ⟨_, rfl, by simp only [okD, okL]; decide, by decide, by decide +kernel, by decide +kernel, by decide +kernel⟩
    · exact ⟨_, rfl, by simp only [okD, okL], by decide, by decide +kernel, by decide +kernel, by decide +kernel⟩
    · exact ⟨_, rfl, by simp only [okD, okL]; decide, by decide, by decide +kernel, by decide +kernel, by decide +kernel⟩
  obtain ⟨ds, rfl, o1, d3, e1, e2, e3⟩ := hz'
  fail "go"
  refine (row_eq h1 o1 (by simp only [okD, okL]; decide) (by simp only [okD, okL]; decide) d3 (by decide) (by decide)).mono ?_
  rintro r S2 ⟨b, m, g2, h2, hh, ok2, hr⟩
  fail "go"
  refine ⟨b, m, g1'.trans g2, h2, hh, ok2, ?_⟩
  rcases hr with ⟨rfl, rfl⟩ | ⟨rfl, ⟨q, rfl⟩ | rfl | rfl⟩
  · exact e1
  · rfl
  · exact e2
  · exact e3
end
end Mkk02
namespace Mkk02
open PySem Mi
theorem n_f : nameB (.str "f") = true := by decide +kernel
theorem n_g : nameB (.str "g") = true := by decide +kernel
section
variable {s t j : Nat} {n m : Tl} {S S' : So}
theorem W.grw (h : W s t j n S) (hst : StB s t S') (g : Grw s S S') : W s t j n S' ∧ Gr2 s j S S' := by
  have g' : Gr2 s j S S' := by
    refine ⟨g.1, fun i a b _ => g.2 i a b, fun d hd => okD_ty (fun i ty q => ?_) hd⟩
    by_cases hi : i = s
    · subst hi
      obtain ⟨cs, i', c, d', h'⟩ := hst
      exact ⟨.lst, tyr_lst h'.at_⟩
    · have hil : i < S.length := by
        unfold tyO at q
        simp only at q
        split at q <;> first | (rename_i e; exact (List.getElem?_eq_some_iff.mp e).1) | cases q
      exact ⟨ty, ty_same (g.2 i hil hi) q⟩
  exact ⟨⟨hst, g.at_ h.sn h.ne, h.ne, h.ne', h.kd, g'.2.2 _ h.vok, h.vbad⟩, g'⟩
theorem Hit.none {n : Tl} : Hit n n false := ⟨.refl, by simp, fun z => by cases z⟩
theorem Hit.trans {n m k : Tl} {a b : Bool} (h : Hit n m a) (g : Hit m k b) : Hit n k (a || b) := by
  refine ⟨g.1.trans h.1, by rw [g.2.1, h.2.1, Bool.or_assoc], fun q => ?_⟩
  cases a with
  | true => exact h.2.2 rfl
  | false =>
    have := g.2.2 (by simpa using q)
    rw [h.2.1] at this
    simpa using this
/-- a part, fine or hit -/
def ResP (P : Bool → D → Prop) (s t j : Nat) (n : Tl) (S : So) (r : D) (S' : So) : Prop := ∃ b m, Gr2 s j S S' ∧ W s t j m S' ∧ Hit n m b ∧ okD S' r ∧ P b r
theorem part_res {P : Bool → D → Prop} {S0 : So} {r0 : D} {b0 : Bool} (g : Gr2 s j S0 S) (h : W s t j m S) (hh : Hit n m b0) (hs : Shape r0) (ho : okD S r0) (hP : P b0 r0) (hW : ∀ r, Wrong r → P true r) : Wp (m_law_part [.ref j, r0] S) (fun r S' => ResP P s t j n S0 r S') := by
  refine (part_eq h hs ho).mono ?_
  rintro r S' ⟨b, m2, g2, h2, hh2, o2, hr⟩
  refine ⟨b0 || b, m2, g.trans g2, h2, hh.trans hh2, o2, ?_⟩
  rcases hr with ⟨rfl, rfl⟩ | ⟨rfl, hw⟩
  · rw [Bool.or_false]
    exact hP
  · rw [Bool.or_true]
    exact hW _ hw
/-- the place at a depth -/
def plc (m : Bool) (d : Int) : Pl := if m then ⟨some ["f", "g"], true, some ["box", "top"], true⟩ else ⟨none, false, some ["box", "top"], decide (1 < d)⟩
theorem plc_inner {m : Bool} {d : Int} (h : 1 ≤ d) : (plc m d).inner = plc m (d + 1) := by
  cases m with
  | true => rfl
  | false =>
    have : decide (1 < d + 1) = true := decide_eq_true (by omega)
    simp only [plc, Pl.inner, Bool.false_eq_true, if_false, this]
abbrev PR (d : Int) (m : Bool) : Bool → D → Prop := fun b r => ∀ c, sR c (plc m d) d r = !b
abbrev PRt (d : Int) (m : Bool) : Bool → D → Prop := fun b r => sR true (plc m d) d r = !b
abbrev PT (l : Nat) (d : Int) (m : Bool) : Bool → D → Prop := fun b r => sT l (plc m d) d r = !b
abbrev PS (d : Int) (m : Bool) : Bool → D → Prop := fun b r => sS (plc m d) d r = !b
abbrev PB (d : Int) (m : Bool) : Bool → D → Prop := fun b r => sB (plc m d) d r = !b
abbrev PTs (d : Int) (m : Bool) : Bool → D → Prop := fun b r => sTs (plc m d) d r = !b
abbrev Sp3 (F : MF) (P : Int → Bool → Bool → D → Prop) (c : Int) (N : Nat) : Prop := ∀ (s t j : Nat) (n : Tl) (S : So) (d : Int), W s t j n S → 1 ≤ d → d ≤ 8 → 6 * (8 - d) + c ≤ N → Wp (F [.ref s, .ref j, .int d] S) (fun r S' => ResP (P d n.method) s t j n S r S')
abbrev SpTe (F : MF) (N : Nat) : Prop := ∀ (s t j : Nat) (n : Tl) (S : So) (d : Int) (l : Nat), W s t j n S → 1 ≤ d → d ≤ 8 → 1 ≤ l → l ≤ 3 → 6 * (8 - d) + 2 + l ≤ N → Wp (F [.ref s, .ref j, .int d, .int l] S) (fun r S' => ResP (PT l d n.method) s t j n S r S')
theorem wr {P : Bool → D → Prop} {r : D} : True := trivial
theorem PRw {d : Int} {m : Bool} : ∀ r, Wrong r → PR d m true r := fun r h c => h.r c _ _
theorem PRtw {d : Int} {m : Bool} : ∀ r, Wrong r → PRt d m true r := fun r h => h.r true _ _
theorem PTw {l : Nat} {d : Int} {m : Bool} : ∀ r, Wrong r → PT l d m true r := fun r h => h.t l _ _
theorem PSw {d : Int} {m : Bool} : ∀ r, Wrong r → PS d m true r := fun r h => h.s _ _
theorem not_or (a b : Bool) : (!(a || b)) = (!a && !b) := by cases a <;> cases b <;> rfl
theorem shape0 {h : Str} (q : (h, 0) ∈ tab) : Shape (.tup [.str h]) := ⟨h, [], rfl, q, by simp⟩
theorem shape1 {h : Str} {a : D} (q : (h, 1) ∈ tab) : Shape (.tup [.str h, a]) := ⟨h, [a], rfl, q, by simp⟩
theorem shape2 {h : Str} {a b : D} (q : (h, 2) ∈ tab) : Shape (.tup [.str h, a, b]) := ⟨h, [a, b], rfl, q, by simp⟩
theorem shape3 {h : Str} {a b c : D} (q : (h, 3) ∈ tab) : Shape (.tup [.str h, a, b, c]) := ⟨h, [a, b, c], rfl, q, by simp⟩
theorem ok1 {h : Str} {a : D} (hl : h.length ≤ lim) (o : okD S a) : okD S (.tup [.str h, a]) := by simp only [okD, okL, and_true]; exact ⟨hl, o⟩
theorem ok2 {h : Str} {a b : D} (hl : h.length ≤ lim) (o : okD S a) (o' : okD S b) : okD S (.tup [.str h, a, b]) := by simp only [okD, okL, and_true]; exact ⟨hl, o, o'⟩
theorem ok3 {h : Str} {a b c : D} (hl : h.length ≤ lim) (o : okD S a) (o' : okD S b) (o'' : okD S c) : okD S (.tup [.str h, a, b, c]) := by simp only [okD, okL, and_true]; exact ⟨hl, o, o', o''⟩
theorem okN {x : Str} (h : nameS x = true) : okD S (.str x) := by
  simp only [nameS, Bool.and_eq_true, decide_eq_true_eq] at h
  have : lim = 100000 := rfl
  show x.length ≤ lim
  omega
theorem plc_mth {d : Int} : plc true d = ⟨some ["f", "g"], true, some ["box", "top"], true⟩ := rfl
theorem sR_me {c : Bool} {pl : Pl} {k : Int} : sR c pl k (.tup [.str "me"]) = pl.fs.isSome := by cases c <;> rfl
theorem sR_field {c : Bool} {pl : Pl} {k : Int} {x : D} : sR c pl k (.tup [.str "field", x]) = pl.fld x := by cases c <;> first | rfl | (simp (decide := true) [sR])
theorem sR_new {c : Bool} {pl : Pl} {k : Int} {x : D} : sR c pl k (.tup [.str "new", x]) = pl.kls x := by cases c <;> first | rfl | (simp (decide := true) [sR])
theorem plc_new {m : Bool} {d : Int} {x : Str} (h : x = "box" ∨ x = "top") : (plc m d).kls (.str x) = true := by
  have h1 : (nameS "box" && (["box", "top"] : List Str).contains "box") = true := by decide +kernel
  have h2 : (nameS "top" && (["box", "top"] : List Str).contains "top") = true := by decide +kernel
  rcases h with rfl | rfl <;> cases m <;> first | exact h1 | exact h2
theorem plc_fld {d : Int} {x : Str} (h : x = "f" ∨ x = "g") : (plc true d).fld (.str x) = true := by
  have h1 : (nameS "f" && (["f", "g"] : List Str).contains "f") = true := by decide +kernel
  have h2 : (nameS "g" && (["f", "g"] : List Str).contains "g") = true := by decide +kernel
  rcases h with rfl | rfl <;> first | exact h1 | exact h2
theorem gs_simple {N : Nat} (ihB : Sp3 (r_law_things N .law_block) PB 7 N) : Sp3 (r_law_things (N + 1) .law_simple) PR 2 (N + 1) := by
  intro s t j n S d h d1 d8 hN
  show Wp (mFn 3 6 (b_law_simple (r_law_things N)) [.ref s, .ref j, .int d] S) _
  unfold b_law_simple
  have hlim : lim = 100000 := rfl
  refine Wp.fn ?_
  refine Wp.seq ?_
  refine Wp.mono (Q := fun p S' => p = (.nx, [some (.ref s), some (.ref j), some (.int d), none, none, none]) ∧ ∃ m, Gr2 s j S S' ∧ W s t j m S' ∧ Hit n m false) ?_ ?_
  · fail "go"
    have hg : gixO S (.ref j) (.str "room") = some (.int n.room) := by
      unfold gixO vw
      simp only [h.sn]
      rfl
    refine ⟨_, hg, ?_⟩
    fail "go"
    refine Wp.ok (set_dct (k := .inr "room") h.sn rfl (show 6 < lim by decide)) ?_
    have hp : putD n.K (.inr "room") (.int (n.room - 1)) = ({ n with room := n.room - 1 } : Tl).K := rfl
    rw [hp]
    obtain ⟨h', g'⟩ := W.put (m := { n with room := n.room - 1 }) h ⟨rfl, rfl, rfl⟩
    exact ⟨rfl, _, g', h', ⟨rfl, rfl, rfl⟩, by simp, fun z => by cases z⟩
  rintro _ S1 ⟨rfl, m1, g1, h1, hh1⟩
  refine Wp.nx ?_
  refine Wp.seq ?_
  refine Wp.mono (Q := fun p S' => (∃ K : Int, p = (.nx, [some (.ref s), some (.ref j), some (.int d), some (.int K), none, none]) ∧ 0 ≤ K ∧ K < 9) ∧ Gr2 s j S S' ∧ W s t j m1 S') ?_ ?_
  · fail "go"
    refine draw_at h1.st (by decide) (by decide) ?_
    intro K S2 k0 k1 hst2 g2
    fail "go"
    exact ⟨⟨K, rfl, k0, k1⟩, g1.trans (h1.gk hst2 g2), h1.keep hst2 g2⟩
  rintro _ S2 ⟨⟨K, rfl, k0, k1⟩, g2, h2⟩
  refine Wp.nx ?_
  refine Wp.seq ?_
  refine Wp.mono (Q := fun p S' => (∃ K : Int, p = (.nx, [some (.ref s), some (.ref j), some (.int d), some (.int K), none, none]) ∧ 0 ≤ K ∧ K < 9 ∧ (5 < K → d ≤ 7)) ∧ S' = S2) ?_ ?_
  · have m4 := fmod_in (a := K) (many := 4) (by decide)
    have ir := ix_room h2
    fail "go"
    refine Wp.op2 ir ?_
    fail "go"
    refine ⟨fun hb => ?_, fun hb => ?_⟩
    · fail "go"
      exact ⟨⟨_, rfl, m4.1, by omega, by omega⟩, rfl⟩
    · fail "go"
      refine ⟨fun hb => ?_, fun hb => ?_⟩
      · fail "go"
        exact ⟨⟨_, rfl, m4.1, by omega, by omega⟩, rfl⟩
      · have hb := of_decide_eq_false hb
        fail "go"
        exact ⟨⟨_, rfl, k0, k1, by omega⟩, rfl⟩
  rintro _ S2' ⟨⟨K, rfl, k0, k1, k5⟩, rfl⟩
  have nm : m1.method = n.method := hh1.1.1
  have fin : ∀ (r0 : D) (S3 : So) (m3 : Tl) (b : Bool), Gr2 s j S S3 → W s t j m3 S3 → Hit n m3 b → Shape r0 → okD S3 r0 → PR d n.method b r0 → Wp (m_law_part [.ref j, r0] S3) (fun r S' => ResP (PR d n.method) s t j n S r S') :=
    fun r0 S3 m3 b g h hh hs ho hP => part_res g h hh hs ho hP PRw
  have hK : K = 0 ∨ K = 1 ∨ K = 2 ∨ K = 4 ∨ (K = 3 ∨ K = 5) ∨ (K = 6 ∨ K = 7 ∨ K = 8) := by omega
  have nms : ∀ {Q : D → So → Prop}, (∀ x S', nameS x = true → W s t j m1 S' → Gr2 s j S S' → Q (.str x) S') → Wp (m_law_name [.ref s] S2') Q := by
    intro Q hQ
    refine (name_eq' h2.st).mono ?_
    rintro _ S3 ⟨x, rfl, hx, hst3, g3⟩
    obtain ⟨h3, g3'⟩ := h2.grw hst3 g3
    exact hQ x S3 hx h3 (g2.trans g3')
  rcases hK with rfl | rfl | rfl | rfl | hK | hK
  · fail "go"
    refine (fin _ _ _ _ g2 h2 hh1 (shape0 (by decide)) (by simp only [okD, okL]; decide) fun c => sR_none).mono ?_
    rintro r S3 hr
    fail "go"
    exact hr
  · fail "go"
    refine nms ?_
    intro x S3 hx h3 g3
    fail "go"
    refine (fin _ _ _ _ g3 h3 hh1 (shape1 (by decide)) (ok1 (by decide) (okN hx)) fun c => by rw [sR_word]; exact hx).mono ?_
    rintro r S4 hr
    fail "go"
    exact hr
  · fail "go"
    refine nms ?_
    intro x S3 hx h3 g3
    fail "go"
    refine (fin _ _ _ _ g3 h3 hh1 (shape1 (by decide)) (ok1 (by decide) (okN hx)) fun c => by rw [sR_name]; exact hx).mono ?_
    rintro r S4 hr
    fail "go"
    exact hr
  · fail "go"
    refine nms ?_
    intro x S3 hx h3 g3
    fail "go"
    refine (fin _ _ _ _ g3 h3 hh1 (shape1 (by decide)) (ok1 (by decide) (okN hx)) fun c => by rw [sR_name]; exact hx).mono ?_
    rintro r S4 hr
    fail "go"
    exact hr
  · rcases hK with rfl | rfl <;>
    (fail "go"
     refine pick_at h2.st (by rfl) (by decide) (by decide) ?_
     intro z S3 hz hst3 g3
     have hz : z = .str "box" ∨ z = .str "top" := by simpa using hz
     obtain ⟨h3, g3'⟩ := h2.grw hst3 g3
     have hnew : ∃ x, z = .str x ∧ (x = "box" ∨ x = "top") := by
       rcases hz with rfl | rfl
       · exact ⟨_, rfl, .inl rfl⟩
       · exact ⟨_, rfl, .inr rfl⟩
     obtain ⟨x, rfl, hx⟩ := hnew
     have hxl : x.length ≤ lim := by rcases hx with rfl | rfl <;> decide
     have hPn : PR d n.method false (.tup [.str "new", .str x]) := fun c => by rw [sR_new, plc_new hx]; rfl
     fail "go"
     refine Wp.op2 (ix_method h3) ?_
     fail "go"
     refine ⟨fun hb => ?_, fun hb => ?_⟩
     · fail "go"
       refine pick_at h3.st (by rfl) (by decide) (by decide) ?_
       intro z S4 hz hst4 g4
       obtain ⟨h4, g4'⟩ := h3.grw hst4 g4
       have hnm : n.method = true := by rw [← nm]; exact hb
       have hz' : Shape z ∧ okD S4 z ∧ PR d n.method false z := by
         simp only [List.mem_cons, List.not_mem_nil, or_false] at hz
         rcases hz with rfl | rfl | rfl | rfl
         · exact ⟨shape0 (by decide), by simp only [okD, okL]; decide, fun c => by rw [hnm]; exact sR_me⟩
         · exact ⟨shape1 (by decide), by simp only [okD, okL]; decide, fun c => by rw [hnm, sR_field, plc_fld (.inl rfl)]; rfl⟩
         · exact ⟨shape1 (by decide), by simp only [okD, okL]; decide, fun c => by rw [hnm, sR_field, plc_fld (.inr rfl)]; rfl⟩
         · exact ⟨shape1 (by decide), ok1 (by decide) hxl, hPn⟩
       fail "go"
       refine (fin _ _ _ _ (g2.trans (g3'.trans g4')) h4 hh1 hz'.1 hz'.2.1 hz'.2.2).mono ?_
       rintro r S5 hr
       fail "go"
       exact hr
     · fail "go"
       refine (fin _ _ _ _ (g2.trans g3') h3 hh1 (shape1 (by decide)) (ok1 (by decide) (show okD S3 (.str x) from hxl)) hPn).mono ?_
       rintro r S5 hr
       fail "go"
       exact hr)
  · have d7 : d ≤ 7 := k5 (by omega)
    rcases hK with rfl | rfl | rfl <;>
    (fail "go"
     refine (params_eq h2).mono ?_
     rintro ps S3 ⟨b3, m3, g3, h3, hh3, o3, q3⟩
     fail "go"
     refine (ihB s t j m3 S3 (d + 1) h3 (by omega) (by omega) (by omega)).mono ?_
     rintro bl S4 ⟨b4, m4, g4, h4, hh4, o4, q4⟩
     fail "go"
     have hh := hh1.trans (hh3.trans hh4)
     have nm3 : m3.method = n.method := by rw [hh3.1.1, nm]
     refine (fin _ _ _ _ (g2.trans (g3.trans g4)) h4 hh (shape2 (by decide)) (ok2 (by decide) (g4.2.2 _ o3) o4) fun c => ?_).mono ?_
     · rw [sR_fn, q3, plc_inner d1, Bool.false_or, not_or, ← nm3]
       congr 1
     rintro r S5 hr
     fail "go"
     exact hr)
theorem gs_right {N : Nat} (ihS : Sp3 (r_law_things N .law_simple) PR 2 N) (ihL : Sp3 (r_law_things N .law_things) PTs 3 N) : Sp3 (r_law_things (N + 1) .law_right) PRt 4 (N + 1) := by
  intro s t j n S d h d1 d8 hN
  show Wp (mFn 3 5 (b_law_right (r_law_things N)) [.ref s, .ref j, .int d] S) _
  unfold b_law_right
  fail "go"
  refine draw_at h.st (by decide) (by decide) ?_
  intro K S1 k0 k1 hst1 g1
  have h1 := h.keep hst1 g1
  have g1 := h.gk hst1 g1
  have fin : ∀ (r0 : D) (S3 : So) (m3 : Tl) (b : Bool), Gr2 s j S S3 → W s t j m3 S3 → Hit n m3 b → Shape r0 → okD S3 r0 → PRt d n.method b r0 → Wp (m_law_part [.ref j, r0] S3) (fun r S' => ResP (PRt d n.method) s t j n S r S') :=
    fun r0 S3 m3 b g h hh hs ho hP => part_res g h hh hs ho hP PRtw
  have nms : ∀ {Q : D → So → Prop} {S1 : So} {m1 : Tl}, W s t j m1 S1 → Gr2 s j S S1 → (∀ x S', nameS x = true → W s t j m1 S' → Gr2 s j S S' → Gr2 s j S1 S' → Q (.str x) S') → Wp (m_law_name [.ref s] S1) Q := by
    intro Q S1 m1 h1 g1 hQ
    refine (name_eq' h1.st).mono ?_
    rintro _ S3 ⟨x, rfl, hx, hst3, g3⟩
    obtain ⟨h3, g3'⟩ := h1.grw hst3 g3
    exact hQ x S3 hx h3 (g1.trans g3') g3'
  have last : Wp (r_law_things N .law_simple [.ref s, .ref j, .int d] S1) (fun r S' => ResP (PRt d n.method) s t j n S r S') := by
    refine (ihS s t j n S1 d h1 d1 d8 (by omega)).mono ?_
    rintro r S2 ⟨b, m, g2, h2, hh2, o2, q2⟩
    exact ⟨b, m, g1.trans g2, h2, hh2, o2, q2 true⟩
  fail "go"
  refine ⟨fun hb => ?_, fun hb => ?_⟩
  · fail "go"
    refine (ihS s t j n S1 d h1 d1 d8 (by omega)).mono ?_
    rintro one S2 ⟨b2, m2, g2, h2, hh2, o2, q2⟩
    fail "go"
    refine (ihL s t j m2 S2 d h2 d1 d8 (by omega)).mono ?_
    rintro ts S3 ⟨b3, m3, g3, h3, hh3, o3, q3⟩
    rw [hh2.1.1] at q3
    fail "go"
    refine (fin _ _ _ _ (g1.trans (g2.trans g3)) h3 (hh2.trans hh3) (shape2 (by decide)) (ok2 (by decide) (g3.2.2 _ o2) o3) ?_).mono ?_
    · show sR true _ _ _ = _
      rw [sR_call, q2 false, q3, not_or]
    rintro r S4 hr
    fail "go"
    exact hr
  fail "go"
  refine ⟨fun hb => ?_, fun hb => ?_⟩
  · fail "go"
    refine (ihS s t j n S1 d h1 d1 d8 (by omega)).mono ?_
    rintro one S2 ⟨b2, m2, g2, h2, hh2, o2, q2⟩
    fail "go"
    refine nms h2 (g1.trans g2) ?_
    intro x S2' hx h2' g2' g2''
    fail "go"
    refine (ihL s t j m2 S2' d h2' d1 d8 (by omega)).mono ?_
    rintro ts S3 ⟨b3, m3, g3, h3, hh3, o3, q3⟩
    rw [hh2.1.1] at q3
    fail "go"
    refine (fin _ _ _ _ (g2'.trans g3) h3 (hh2.trans hh3) (shape3 (by decide)) (ok3 (by decide) (g3.2.2 _ (g2''.2.2 _ o2)) (okN hx) o3) ?_).mono ?_
    · have hx' : nameB (.str x) = true := hx
      show sR true _ _ _ = _
      rw [sR_ask, q2 false, q3, not_or, hx', Bool.true_and]
    rintro r S4 hr
    fail "go"
    exact hr
  fail "go"
  refine ⟨fun hb => ?_, fun hb => ?_⟩
  · fail "go"
    refine Wp.op2 (ix_method h1) ?_
    fail "go"
    refine ⟨fun hb => ?_, fun hb => ?_⟩
    · fail "go"
      refine nms h1 g1 ?_
      intro x S2' hx h2' g2' g2''
      fail "go"
      refine (ihL s t j n S2' d h2' d1 d8 (by omega)).mono ?_
      rintro ts S3 ⟨b3, m3, g3, h3, hh3, o3, q3⟩
      fail "go"
      refine (fin _ _ _ _ (g2'.trans g3) h3 hh3 (shape2 (by decide)) (ok2 (by decide) (okN hx) o3) ?_).mono ?_
      · have hx' : nameB (.str x) = true := hx
        have hp : (plc n.method d).hp = true := by rw [hb]; rfl
        show sR true _ _ _ = _
        rw [sR_parent, q3, hp, hx', Bool.true_and, Bool.true_and]
      rintro r S4 hr
      fail "go"
      exact hr
    · fail "go"
      refine last.mono ?_
      rintro r S4 hr
      fail "go"
      exact hr
  · fail "go"
    refine last.mono ?_
    rintro r S4 hr
    fail "go"
    exact hr
end
end Mkk02
namespace Mkk02
open PySem Mi
section
variable {s t j : Nat} {n m : Tl} {S S' : So}
/-- a list apart from source and tools is put anew -/
theorem W.setl {i : Nat} {a b : List D} (h : W s t j n S) (ha : S[i]? = some (.lst a)) (h1 : i ≠ s) (h2 : i ≠ t) (h3 : i ≠ j) : W s t j n (S.set i (.lst b)) ∧ ∀ d, okD S d → okD (S.set i (.lst b)) d := by
  have k : ∀ d, okD S d → okD (S.set i (.lst b)) d := fun d hd => okD_ty (fun x ty q => by
    by_cases hx : x = i
    · subst hx
      exact ⟨.lst, tyr_lst (set_at ha)⟩
    · exact ⟨ty, ty_same (List.getElem?_set_ne (Ne.symm hx)) q⟩) hd
  exact ⟨⟨h.st.set h1 h2, by rw [List.getElem?_set_ne h3]; exact h.sn, h.ne, h.ne', h.kd, k _ h.vok, h.vbad⟩, k⟩
/-- a row of parts, built one by one -/
theorem row_loop {F : MF} {P : Bool → D → Prop} {f : D → Bool} {d : Int} {vs : List Nat} {bn : Bnd} {ρ : Ro} (h : W s t j n S) (hP : ∀ b r, P b r → f r = !b)
    (hF : ∀ (m : Tl) (S1 : So), W s t j m S1 → m.method = n.method → Wp (F [.ref s, .ref j, .int d] S1) (fun r S' => ResP P s t j m S1 r S')) (it : List D) (hit : it.length ≤ 100)
    (hbn : ∀ x ∈ it, ∃ o, bn x (wipeR ρ vs) = some o ∧ o[0]? = some (some (.ref s)) ∧ o[1]? = some (some (.ref j)) ∧ o[2]? = some (some (.int d))) {mi : MI} (hmi : mi ρ S = .ok (.vals it) S) :
    Wp (mLc mi bn (mYes) (mCall F 3 [] (mConsA (mVar 0) (mConsA (mVar 1) (mConsA (mVar 2) (mNilA))))) vs ρ S) (fun r S' => ∃ ds b m, r = .ref S.length ∧ S'[S.length]? = some (.lst ds) ∧ ds.length = it.length ∧ Gr2 s j S S' ∧ W s t j m S' ∧ Hit n m b ∧ okL S' ds ∧ ds.all f = !b) := by
  have hs := h.lt
  refine Wp.lcV ?_
  refine Wp.ok hmi ?_
  refine ⟨it, rfl, fun i S' => ∃ ds b m, S'[S.length]? = some (.lst ds) ∧ ds.length = i ∧ Gr2 s j S S' ∧ W s t j m S' ∧ Hit n m b ∧ okL S' ds ∧ ds.all f = !b, ?_, ?_, ?_⟩
  · exact ⟨[], false, n, last_at, rfl, Gr2.app, h.app, Hit.none, by simp only [okL], rfl⟩
  · rintro i x S1 hx ⟨ds, b, m, hds, hl, g, hw, hh, hok, hall⟩
    obtain ⟨o, ho, o0, o1, o2⟩ := hbn x (List.mem_of_getElem? hx)
    refine ⟨o, ho, ?_⟩
    refine Wp.yes ?_
    refine Wp.bt rfl ?_
    refine Wp.call0 ?_
    refine Wp.consA (Wp.var o0 ?_)
    refine Wp.consA (Wp.var o1 ?_)
    refine Wp.consA (Wp.var o2 ?_)
    refine Wp.nilA ?_
    refine ⟨rfl, ?_⟩
    refine (hF m S1 hw hh.1.1).mono ?_
    rintro r S2 ⟨b2, m2, g2, h2, hh2, ok2, hP2⟩
    have hlt : S.length < S1.length := (List.getElem?_eq_some_iff.mp hds).1
    have hds2 : S2[S.length]? = some (.lst ds) := (g2.2.1 _ hlt (by omega) (by omega)).trans hds
    obtain ⟨h3, k3⟩ := W.setl (b := ds ++ [r]) h2 hds2 (by omega) (by omega) (by omega)
    have hil : i < it.length := (List.getElem?_eq_some_iff.mp hx).1
    have up : okL S2 ds := by
      have := g2.2.2 (.tup ds) (by unfold okD; exact hok)
      unfold okD at this
      exact this
    refine ⟨ds, hds2, by have : lim = 100000 := rfl; omega, ds ++ [r], b || b2, m2, set_at hds2, by rw [List.length_append, hl]; rfl, ?_, h3, hh.trans hh2, ?_, ?_⟩
    · refine ⟨by rw [List.length_set]; exact Nat.le_trans g.1 g2.1, fun x hx h1 h2 => ?_, fun d hd => k3 d (g2.2.2 d (g.2.2 d hd))⟩
      rw [List.getElem?_set_ne (by omega)]
      exact (g2.2.1 x (by omega) h1 h2).trans (g.2.1 x hx h1 h2)
    · rw [okL_all]
      intro y hy
      rcases List.mem_append.mp hy with hy | hy
      · exact k3 _ (okL_all.mp up y hy)
      · rcases List.mem_singleton.mp hy with rfl
        exact k3 _ ok2
    · rw [List.all_append, hall, List.all_cons, List.all_nil, Bool.and_true, hP _ _ hP2, not_or]
  · rintro S1 ⟨ds, b, m, hds, hl, g, hw, hh, hok, hall⟩
    exact ⟨ds, b, m, rfl, hds, hl, g, hw, hh, hok, hall⟩
theorem tuple_of {l : Nat} {ds : List D} (h : S[l]? = some (.lst ds)) : tupleD [.ref l] S = .ok (.tup ds) S := by
  unfold tupleD seqO vw
  simp only [h]
theorem gs_things {N : Nat} (ihS : Sp3 (r_law_things N .law_simple) PR 2 N) : Sp3 (r_law_things (N + 1) .law_things) PTs 3 (N + 1) := by
  intro s t j n S d h d1 d8 hN
  show Wp (mFn 3 7 (b_law_things (r_law_things N)) [.ref s, .ref j, .int d] S) _
  unfold b_law_things
  refine Wp.fn ?_
  refine Wp.seq ?_
  refine Wp.asgN ?_
  refine Wp.c ?_
  refine Wp.nx ?_
  refine Wp.seq ?_
  refine Wp.mono (Q := fun p S' => (∃ K : Int, p = (.nx, [some (.ref s), some (.ref j), some (.int d), some (.int K), none, none, none]) ∧ 0 ≤ K ∧ K < 4) ∧ Gr2 s j S S' ∧ W s t j n S') ?_ ?_
  · fail "go"
    refine Wp.op2 (ix_room h) ?_
    fail "go"
    refine ⟨fun hb => ?_, fun hb => ?_⟩
    · fail "go"
      refine draw_at h.st (by decide) (by decide) ?_
      intro K S2 k0 k1 hst2 g2
      fail "go"
      exact ⟨⟨K, rfl, k0, k1⟩, h.gk hst2 g2, h.keep hst2 g2⟩
    · fail "go"
      exact ⟨⟨0, rfl, by omega, by omega⟩, Gr2.refl, h⟩
  rintro _ S1 ⟨⟨K, rfl, k0, k1⟩, g1, h1⟩
  refine Wp.nx ?_
  refine Wp.seq ?_
  refine Wp.asgN ?_
  refine Wp.callB ?_
  refine Wp.consA ?_
  have hl : lim = 100000 := rfl
  refine (row_loop (P := PR d n.method) (f := sR false (plc n.method d) d) h1 (fun b r q => q false) (fun m S2 hw hm => ?_) ((List.range K.toNat).map fun (k : Nat) => D.int (0 + (k : Int))) (by simp; omega) (by intro x hx; exact ⟨_, rfl, rfl, rfl, rfl⟩) ?_).mono ?_
  · have := ihS s t j m S2 d hw d1 d8 (by omega)
    rw [hm] at this
    exact this
  · show (if K ≤ (lim : Int) ∧ -(2 ^ 62) ≤ K then _ else _) = _
    rw [if_pos ⟨by omega, by omega⟩]
  rintro _ S2 ⟨ds, b, m, rfl, hds, hdl, g2, h2, hh2, ok2, hall⟩
  fail "go"
  refine Wp.opL (tuple_of hds) ?_
  have hd3 : ds.length ≤ 3 := by rw [hdl]; simp; omega
  fail "go"
  have okn : okD S2 (.tup [.str "none"]) := by simp only [okD, okL]; decide
  refine (row_eq h2 ok2 (ms := [.tup [.str "none"], .tup [.str "none"], .tup [.str "none"], .tup [.str "none"]]) (os := [.tup [.str "call", .tup [.str "name", .str "x"], .tup []]]) (by simp only [okL]; exact ⟨okn, okn, okn, okn, trivial⟩) (by simp only [okD, okL]; decide) hd3 (by simp) (by simp)).mono ?_
  rintro r S3 ⟨b3, m3, g3, h3, hh3, o3, hr⟩
  fail "go"
  refine ⟨b || b3, m3, g1.trans (g2.trans g3), h3, hh2.trans hh3, o3, ?_⟩
  show sTs (plc n.method d) d r = _
  rcases hr with ⟨rfl, rfl⟩ | ⟨rfl, ⟨q, rfl⟩ | rfl | rfl⟩
  · rw [sTs_of, sTl_all, hall, Bool.or_false]
    simp [hd3]
  · rw [Bool.or_true]
    simp [sTs]
  · rw [Bool.or_true, sTs_of]
    have : ((ds ++ [D.tup [.str "none"], .tup [.str "none"], .tup [.str "none"], .tup [.str "none"]]).take 4).length = 4 := by
      rw [List.length_take, List.length_append]
      simp
    rw [this]
    rfl
  · rw [Bool.or_true, sTs_of, sTl_all, List.all_append, List.all_cons]
    have : sR false (plc n.method d) d (.tup [.str "call", .tup [.str "name", .str "x"], .tup []]) = false := by
      simp (decide := true) [sR]
    rw [this, Bool.false_and, Bool.and_false, Bool.and_false]
    rfl
theorem gs_block {N : Nat} (ihS : Sp3 (r_law_things N .law_statement) PS 6 N) : Sp3 (r_law_things (N + 1) .law_block) PB 7 (N + 1) := by
  intro s t j n S d h d1 d8 hN
  show Wp (mFn 3 5 (b_law_block (r_law_things N)) [.ref s, .ref j, .int d] S) _
  unfold b_law_block
  refine Wp.fn ?_
  refine Wp.seq ?_
  refine Wp.asgN ?_
  refine Wp.c ?_
  refine Wp.nx ?_
  refine Wp.seq ?_
  refine Wp.mono (Q := fun p S' => (∃ K : Int, p = (.nx, [some (.ref s), some (.ref j), some (.int d), some (.int K), none]) ∧ 0 ≤ K ∧ K < 4) ∧ Gr2 s j S S' ∧ W s t j n S') ?_ ?_
  · fail "go"
    refine Wp.op2 (ix_room h) ?_
    fail "go"
    refine ⟨fun hb => ?_, fun hb => ?_⟩
    · fail "go"
      refine draw_at h.st (by decide) (by decide) ?_
      intro K S2 k0 k1 hst2 g2
      fail "go"
      exact ⟨⟨_, rfl, by split <;> omega, by split <;> omega⟩, h.gk hst2 g2, h.keep hst2 g2⟩
    · fail "go"
      exact ⟨⟨0, rfl, by omega, by omega⟩, Gr2.refl, h⟩
  rintro _ S1 ⟨⟨K, rfl, k0, k1⟩, g1, h1⟩
  refine Wp.nx ?_
  refine Wp.ret ?_
  refine Wp.callB ?_
  refine Wp.consA ?_
  have hl : lim = 100000 := rfl
  refine (row_loop (P := PS d n.method) (f := sS (plc n.method d) d) h1 (fun b r q => q) (fun m S2 hw hm => ?_) ((List.range K.toNat).map fun (k : Nat) => D.int (0 + (k : Int))) (by simp; omega) (by intro x hx; exact ⟨_, rfl, rfl, rfl, rfl⟩) ?_).mono ?_
  · have := ihS s t j m S2 d hw d1 d8 (by omega)
    rw [hm] at this
    exact this
  · show (if K ≤ (lim : Int) ∧ -(2 ^ 62) ≤ K then _ else _) = _
    rw [if_pos ⟨by omega, by omega⟩]
  rintro _ S2 ⟨ds, b, m, rfl, hds, hdl, g2, h2, hh2, ok2, hall⟩
  fail "go"
  refine Wp.opL (tuple_of hds) ?_
  have hd3 : ds.length ≤ 12 := by rw [hdl]; simp; omega
  fail "go"
  refine ⟨b, m, g1.trans g2, h2, hh2, by unfold okD; exact ok2, ?_⟩
  show sB (plc n.method d) d _ = _
  rw [sB_of, sSl_all, hall]
  simp [hd3, d8]
theorem gs_test {N : Nat} (ihS : Sp3 (r_law_things N .law_simple) PR 2 N) (ihT : SpTe (r_law_things N .law_test) N) : SpTe (r_law_things (N + 1) .law_test) (N + 1) := by
  intro s t j n S d l h d1 d8 l1 l3 hN
  show Wp (mFn 4 7 (b_law_test (r_law_things N)) [.ref s, .ref j, .int d, .int l] S) _
  unfold b_law_test
  refine Wp.fn ?_
  refine Wp.seq ?_
  refine Wp.asgN ?_
  refine draw_call rfl h.st (by decide) (by decide) ?_
  intro K S1 k0 k1 hst1 g1
  have h1 := h.keep hst1 g1
  have g1 := h.gk hst1 g1
  have fin : ∀ (r0 : D) (S3 : So) (m3 : Tl) (b : Bool), Gr2 s j S S3 → W s t j m3 S3 → Hit n m3 b → Shape r0 → okD S3 r0 → PT l d n.method b r0 → Wp (m_law_part [.ref j, r0] S3) (fun r S' => ResP (PT l d n.method) s t j n S r S') :=
    fun r0 S3 m3 b g h hh hs ho hP => part_res g h hh hs ho hP PTw
  obtain ⟨l', rfl⟩ : ∃ l', l = l' + 1 := ⟨l - 1, by omega⟩
  refine Wp.nx ?_
  refine Wp.seq ?_
  refine Wp.if_ ?_
  refine Wp.mono (Q := fun c S' => S' = S1 ∧ (c = false → 1 ≤ l' ∧ K ≠ 0)) ?_ ?_
  · fail "go"
    refine ⟨fun hb => ?_, fun hb => ?_⟩
    · exact ⟨rfl, fun z => by cases z⟩
    · have hb : ((l' + 1 : Nat) : Int) ≠ 1 := by simpa using hb
      fail "go"
      refine ⟨fun hb2 => ?_, fun hb2 => ?_⟩
      · exact ⟨rfl, fun z => by cases z⟩
      · have hb2 : K ≠ 0 := by simpa using hb2
        fail "go"
        refine Wp.op2 (ix_room h1) ?_
        fail "go"
        exact fun _ => ⟨by omega, hb2⟩
  rintro c _ ⟨rfl, hc⟩
  refine ⟨fun hb => ?_, fun hb => ?_⟩
  · fail "go"
    refine (ihS s t j n _ d h1 d1 d8 (by omega)).mono ?_
    rintro one S2 ⟨b2, m2, g2, h2, hh2, o2, q2⟩
    fail "go"
    refine (ihS s t j m2 S2 d h2 d1 d8 (by omega)).mono ?_
    rintro other S3 ⟨b3, m3, g3, h3, hh3, o3, q3⟩
    rw [hh2.1.1] at q3
    fail "go"
    refine (fin _ _ _ _ (g1.trans (g2.trans g3)) h3 (hh2.trans hh3) (shape2 (by decide)) (ok2 (by decide) (g3.2.2 _ o2) o3) ?_).mono ?_
    · show sT (l' + 1) _ _ _ = _
      rw [sT_same, q2 false, q3 false, not_or]
    rintro r S4 hr
    fail "go"
    exact hr
  obtain ⟨l1', hK⟩ := hc hb
  have sub1 : ∀ S, subD (.int ((l' + 1 : Nat) : Int)) (.int 1) S = .ok (.int (l' : Int)) S := by
    intro S
    show Rs.ok (D.int (((l' + 1 : Nat) : Int) - 1)) S = _
    congr 2
    omega
  have ih : ∀ (m : Tl) (S1 : So), W s t j m S1 → Wp (r_law_things N .law_test [.ref s, .ref j, .int d, .int (l' : Int)] S1) (fun r S' => ResP (PT l' d m.method) s t j m S1 r S') := fun m S1 hw => ihT s t j m S1 d l' hw d1 d8 l1' (by omega) (by omega)
  refine Wp.skip ?_
  refine Wp.nx ?_
  refine Wp.seq ?_
  refine Wp.asgN ?_
  refine Wp.call0 ?_
  refine Wp.consA (Wp.var rfl ?_)
  refine Wp.consA (Wp.var rfl ?_)
  refine Wp.consA (Wp.var rfl ?_)
  refine Wp.consA ?_
  refine Wp.m2 (Wp.var rfl (Wp.c ?_))
  refine Wp.op2 (sub1 _) ?_
  refine Wp.nilA ?_
  refine ⟨rfl, ?_⟩
  refine (ih n _ h1).mono ?_
  rintro one S2 ⟨b2, m2, g2, h2, hh2, o2, q2⟩
  have hKs : K = 1 ∨ K = 2 ∨ K = 3 := by omega
  rcases hKs with rfl | rfl | rfl
  · fail "go"
    refine (fin _ _ _ _ (g1.trans g2) h2 hh2 (shape1 (by decide)) (ok1 (by decide) o2) ?_).mono ?_
    · show sT (l' + 1) _ _ _ = _
      rw [sT_not, q2]
    rintro r S4 hr
    fail "go"
    exact hr
  · fail "go"
    rw [show ((l' + 1 : Nat) : Int) - 1 = (l' : Int) by omega]
    refine (ih m2 _ h2).mono ?_
    rintro other S3 ⟨b3, m3, g3, h3, hh3, o3, q3⟩
    rw [hh2.1.1] at q3
    fail "go"
    refine Wp.op2 (ix_lst last_at rfl) ?_
    fail "go"
    refine (fin _ _ _ _ (g1.trans (g2.trans (g3.trans Gr2.app))) h3.app (hh2.trans hh3) (shape2 (by decide)) (ok2 (by decide) (Ext.ok (Ext.app Ext.refl) (g3.2.2 _ o2)) (Ext.ok (Ext.app Ext.refl) o3)) ?_).mono ?_
    · show sT (l' + 1) _ _ _ = _
      rw [sT_both, q2, q3, not_or]
    rintro r S4 hr
    fail "go"
    exact hr
  · fail "go"
    rw [show ((l' + 1 : Nat) : Int) - 1 = (l' : Int) by omega]
    refine (ih m2 _ h2).mono ?_
    rintro other S3 ⟨b3, m3, g3, h3, hh3, o3, q3⟩
    rw [hh2.1.1] at q3
    fail "go"
    refine Wp.op2 (ix_lst last_at rfl) ?_
    fail "go"
    refine (fin _ _ _ _ (g1.trans (g2.trans (g3.trans Gr2.app))) h3.app (hh2.trans hh3) (shape2 (by decide)) (ok2 (by decide) (Ext.ok (Ext.app Ext.refl) (g3.2.2 _ o2)) (Ext.ok (Ext.app Ext.refl) o3)) ?_).mono ?_
    · show sT (l' + 1) _ _ _ = _
      rw [sT_either, q2, q3, not_or]
    rintro r S4 hr
    fail "go"
    exact hr
end
end Mkk02
namespace Mkk02
open PySem Mi
section
variable {s t j : Nat} {n m : Tl} {S S' : So}
theorem gs_statement {N : Nat} (ihS : Sp3 (r_law_things N .law_simple) PR 2 N) (ihR : Sp3 (r_law_things N .law_right) PRt 4 N) (ihT : SpTe (r_law_things N .law_test) N) : Sp3 (r_law_things (N + 1) .law_statement) PS 6 (N + 1) := by
  intro s t j n S d h d1 d8 hN
  show Wp (mFn 3 5 (b_law_statement (r_law_things N)) [.ref s, .ref j, .int d] S) _
  unfold b_law_statement
  refine Wp.fn ?_
  refine Wp.seq ?_
  refine Wp.asgN ?_
  refine draw_call rfl h.st (by decide) (by decide) ?_
  intro K S1 k0 k1 hst1 g1
  have h1 := h.keep hst1 g1
  have g1 := h.gk hst1 g1
  refine Wp.nx ?_
  refine Wp.seq ?_
  refine Wp.mono (Q := fun p S' => (∃ K : Int, p = (.nx, [some (.ref s), some (.ref j), some (.int d), some (.int K), none]) ∧ 0 ≤ K ∧ K < 8 ∧ (K < 2 → d ≤ 7)) ∧ S' = S1) ?_ ?_
  · have m6 := fmod_in (a := K) (many := 6) (by decide)
    fail "go"
    refine ⟨fun hb => ?_, fun hb => ?_⟩
    · fail "go"
      exact ⟨⟨_, rfl, by omega, by omega, by omega⟩, rfl⟩
    · have hb := of_decide_eq_false hb
      fail "go"
      exact ⟨⟨_, rfl, k0, k1, by omega⟩, rfl⟩
  rintro _ S1 ⟨⟨K, rfl, k0, k1, k7⟩, rfl⟩
  refine Wp.nx ?_
  have fin : ∀ (r0 : D) (S3 : So) (m3 : Tl) (b : Bool), Gr2 s j S S3 → W s t j m3 S3 → Hit n m3 b → Shape r0 → okD S3 r0 → PS d n.method b r0 → Wp (m_law_part [.ref j, r0] S3) (fun r S' => ResP (PS d n.method) s t j n S r S') :=
    fun r0 S3 m3 b g h hh hs ho hP => part_res g h hh hs ho hP PSw
  have sub0 : sB (plc n.method d) (d + 1) (.tup []) = decide (d + 1 ≤ 8) := by simp [sB, sSl]
  have hK : K = 0 ∨ K = 1 ∨ K = 2 ∨ K = 3 ∨ K = 4 ∨ K = 5 ∨ K = 6 ∨ K = 7 := by omega
  -- the last way
  have other : ∀ {B : D → So → Prop} {S2 : So}, W s t j n S2 → Gr2 s j S S2 → (∀ r S', ResP (PS d n.method) s t j n S r S' → B r S') → ∀ z, (z = .str "do" ∨ z = .str "raise") → Wp (r_law_things N .law_right [.ref s, .ref j, .int d] S2) (fun r S3 => Wp (m_law_part [.ref j, .tup [z, r]] S3) B) := by
    intro B S2 h2 g2 hB z hz
    refine (ihR s t j n S2 d h2 d1 d8 (by omega)).mono ?_
    rintro r S3 ⟨b3, m3, g3, h3, hh3, o3, q3⟩
    have q3' : sR true (plc n.method d) d r = !b3 := q3
    rcases hz with rfl | rfl
    · refine (fin _ _ _ _ (g2.trans g3) h3 hh3 (shape1 (by decide)) (ok1 (by decide) o3) ?_).mono hB
      show sS _ _ _ = _
      rw [sS_do, q3']
    · refine (fin _ _ _ _ (g2.trans g3) h3 hh3 (shape1 (by decide)) (ok1 (by decide) o3) ?_).mono hB
      show sS _ _ _ = _
      rw [sS_raise, q3']
  have mul1 : ∀ S, mulTD (.tup [.tup []]) (.int 1) S = .ok (.tup [.tup []]) S := fun _ => rfl
  have mul0 : ∀ S, mulTD (.tup [.tup []]) (.int 0) S = .ok (.tup []) S := fun _ => rfl
  have hl : lim = 100000 := rfl
  rcases hK with rfl | rfl | rfl | rfl | rfl | rfl | rfl | rfl
  · have d7 := k7 (by omega)
    fail "go"
    refine Wp.op2 (ix_lst last_at rfl) ?_
    fail "go"
    refine (ihT s t j n _ d 3 h1.app d1 d8 (by omega) (by omega) (by omega)).mono ?_
    rintro T S2 ⟨b2, m2, g2, h2, hh2, o2, q2⟩
    have q2' : sT 3 (plc n.method d) d T = !b2 := q2
    fail "go"
    refine Wp.op2 (mul1 _) ?_
    refine Wp.op2 (add_tup (by simp; omega)) ?_
    fail "go"
    refine (fin _ _ _ _ (g1.trans (Gr2.app.trans g2)) h2 hh2 (shape3 (h := "if") (by decide)) (ok3 (by decide) o2 (by simp only [okD, okL]) (by simp only [okD, okL])) ?_).mono ?_
    · show sS _ _ _ = _
      rw [sS_if, q2', sub0, decide_eq_true (by omega : d + 1 ≤ 8)]
      simp
    rintro r S3 hr
    fail "go"
    exact hr
  · have d7 := k7 (by omega)
    fail "go"
    refine Wp.op2 (ix_lst last_at rfl) ?_
    fail "go"
    refine (ihT s t j n _ d 3 h1.app d1 d8 (by omega) (by omega) (by omega)).mono ?_
    rintro T S2 ⟨b2, m2, g2, h2, hh2, o2, q2⟩
    have q2' : sT 3 (plc n.method d) d T = !b2 := q2
    fail "go"
    refine Wp.op2 (mul0 _) ?_
    refine Wp.op2 (add_tup (by simp; omega)) ?_
    fail "go"
    refine (fin _ _ _ _ (g1.trans (Gr2.app.trans g2)) h2 hh2 (shape2 (h := "while") (by decide)) (ok2 (by decide) o2 (by simp only [okD, okL])) ?_).mono ?_
    · show sS _ _ _ = _
      rw [sS_while, q2', sub0, decide_eq_true (by omega : d + 1 ≤ 8)]
      simp
    rintro r S3 hr
    fail "go"
    exact hr
  · fail "go"
    refine Wp.op2 (ix_lst last_at rfl) ?_
    fail "go"
    refine (name_eq' h1.app.st).mono ?_
    rintro _ S2 ⟨x, rfl, hx, hst2, g2⟩
    obtain ⟨h2, g2'⟩ := h1.app.grw hst2 g2
    fail "go"
    refine (ihR s t j n S2 d h2 d1 d8 (by omega)).mono ?_
    rintro r S3 ⟨b3, m3, g3, h3, hh3, o3, q3⟩
    have q3' : sR true (plc n.method d) d r = !b3 := q3
    fail "go"
    refine (fin _ _ _ _ (g1.trans (Gr2.app.trans (g2'.trans g3))) h3 hh3 (shape2 (by decide)) (ok2 (by decide) (okN hx) o3) ?_).mono ?_
    · have hx' : nameB (.str x) = true := hx
      show sS _ _ _ = _
      rw [sS_let, q3', hx', Bool.true_and]
    rintro r S3 hr
    fail "go"
    exact hr
  · fail "go"
    refine Wp.op2 (ix_lst last_at rfl) ?_
    fail "go"
    refine (name_eq' h1.app.st).mono ?_
    rintro _ S2 ⟨x, rfl, hx, hst2, g2⟩
    obtain ⟨h2, g2'⟩ := h1.app.grw hst2 g2
    fail "go"
    refine (ihR s t j n S2 d h2 d1 d8 (by omega)).mono ?_
    rintro r S3 ⟨b3, m3, g3, h3, hh3, o3, q3⟩
    have q3' : sR true (plc n.method d) d r = !b3 := q3
    fail "go"
    refine (fin _ _ _ _ (g1.trans (Gr2.app.trans (g2'.trans g3))) h3 hh3 (shape2 (by decide)) (ok2 (by decide) (okN hx) o3) ?_).mono ?_
    · have hx' : nameB (.str x) = true := hx
      show sS _ _ _ = _
      rw [sS_set, q3', hx', Bool.true_and]
    rintro r S3 hr
    fail "go"
    exact hr
  · fail "go"
    refine (ihS s t j n _ d h1 d1 d8 (by omega)).mono ?_
    rintro r S3 ⟨b3, m3, g3, h3, hh3, o3, q3⟩
    fail "go"
    refine (fin _ _ _ _ (g1.trans g3) h3 hh3 (shape1 (by decide)) (ok1 (by decide) o3) ?_).mono ?_
    · show sS _ _ _ = _
      rw [sS_print, q3 false]
    rintro r S3 hr
    fail "go"
    exact hr
  · fail "go"
    refine Wp.op2 (ix_method h1) ?_
    fail "go"
    refine ⟨fun hb => ?_, fun hb => ?_⟩
    · fail "go"
      refine pick_at h1.st (by rfl) (by decide) (by decide) ?_
      intro z S2 hz hst2 g2
      obtain ⟨h2, g2'⟩ := h1.grw hst2 g2
      have hz : ∃ x, z = .str x ∧ (x = "f" ∨ x = "g") := by
        simp only [List.mem_cons, List.not_mem_nil, or_false] at hz
        rcases hz with rfl | rfl
        · exact ⟨_, rfl, .inl rfl⟩
        · exact ⟨_, rfl, .inr rfl⟩
      obtain ⟨x, rfl, hx⟩ := hz
      have hxl : okD S2 (.str x) := by rcases hx with rfl | rfl <;> (simp only [okD]; decide)
      fail "go"
      refine (ihR s t j n S2 d h2 d1 d8 (by omega)).mono ?_
      rintro r S3 ⟨b3, m3, g3, h3, hh3, o3, q3⟩
      have q3' : sR true (plc n.method d) d r = !b3 := q3
      fail "go"
      refine (fin _ _ _ _ (g1.trans (g2'.trans g3)) h3 hh3 (shape2 (by decide)) (ok2 (by decide) (g3.2.2 _ hxl) o3) ?_).mono ?_
      · show sS _ _ _ = _
        have hf : (plc n.method d).fld (.str x) = true := by rw [hb]; exact plc_fld hx
        rw [sS_keep, q3', hf, Bool.true_and]
      rintro r S3 hr
      fail "go"
      exact hr
    · fail "go"
      refine pick_at h1.st (by rfl) (by decide) (by decide) ?_
      intro z S2 hz hst2 g2
      obtain ⟨h2, g2'⟩ := h1.grw hst2 g2
      have hz : z = .str "do" ∨ z = .str "raise" := by simpa using hz
      fail "go"
      refine (other h2 (g1.trans g2') (B := fun r S' => ResP (PS d n.method) s t j n S r S') (fun r S' hr => hr) z hz).mono ?_
      rintro r S3 hr
      fail "go"
      refine hr.mono ?_
      rintro r S3 hr
      fail "go"
      exact hr
  · fail "go"
    refine Wp.op2 (ix_method h1) ?_
    fail "go"
    have ret : sS (plc n.method d) d = sS (plc n.method d) d := rfl
    refine ⟨fun hb => ?_, fun hb => ?_⟩
    · fail "go"
      refine (ihR s t j n _ d h1 d1 d8 (by omega)).mono ?_
      rintro r S3 ⟨b3, m3, g3, h3, hh3, o3, q3⟩
      have q3' : sR true (plc n.method d) d r = !b3 := q3
      fail "go"
      refine (fin _ _ _ _ (g1.trans g3) h3 hh3 (shape1 (by decide)) (ok1 (by decide) o3) ?_).mono ?_
      · show sS _ _ _ = _
        have hf : (plc n.method d).mr = true := by rw [hb]; rfl
        rw [sS_return, q3', hf, Bool.true_and]
      rintro r S3 hr
      fail "go"
      exact hr
    · fail "go"
      refine ⟨fun hd => ?_, fun hd => ?_⟩
      · fail "go"
        refine (ihR s t j n _ d h1 d1 d8 (by omega)).mono ?_
        rintro r S3 ⟨b3, m3, g3, h3, hh3, o3, q3⟩
        have q3' : sR true (plc n.method d) d r = !b3 := q3
        fail "go"
        refine (fin _ _ _ _ (g1.trans g3) h3 hh3 (shape1 (by decide)) (ok1 (by decide) o3) ?_).mono ?_
        · show sS _ _ _ = _
          have hf : (plc n.method d).mr = true := by rw [hb]; exact hd
          rw [sS_return, q3', hf, Bool.true_and]
        rintro r S3 hr
        fail "go"
        exact hr
      · fail "go"
        refine pick_at h1.st (by rfl) (by decide) (by decide) ?_
        intro z S2 hz hst2 g2
        obtain ⟨h2, g2'⟩ := h1.grw hst2 g2
        have hz : z = .str "do" ∨ z = .str "raise" := by simpa using hz
        fail "go"
        refine (other h2 (g1.trans g2') (B := fun r S' => ResP (PS d n.method) s t j n S r S') (fun r S' hr => hr) z hz).mono ?_
        rintro r S3 hr
        fail "go"
        refine hr.mono ?_
        rintro r S3 hr
        fail "go"
        exact hr
  · fail "go"
    refine pick_at h1.st (by rfl) (by decide) (by decide) ?_
    intro z S2 hz hst2 g2
    obtain ⟨h2, g2'⟩ := h1.grw hst2 g2
    have hz : z = .str "do" ∨ z = .str "raise" := by simpa using hz
    fail "go"
    refine (other h2 (g1.trans g2') (B := fun r S' => ResP (PS d n.method) s t j n S r S') (fun r S' hr => hr) z hz).mono ?_
    rintro r S3 hr
    fail "go"
    refine hr.mono ?_
    rintro r S3 hr
    fail "go"
    exact hr
theorem gen_all : ∀ N : Nat, Sp3 (r_law_things N .law_things) PTs 3 N ∧ Sp3 (r_law_things N .law_simple) PR 2 N ∧ Sp3 (r_law_things N .law_right) PRt 4 N ∧ SpTe (r_law_things N .law_test) N ∧ Sp3 (r_law_things N .law_statement) PS 6 N ∧ Sp3 (r_law_things N .law_block) PB 7 N
  | 0 => ⟨fun _ _ _ _ _ _ _ _ _ _ => by omega, fun _ _ _ _ _ _ _ _ _ _ => by omega, fun _ _ _ _ _ _ _ _ _ _ => by omega, fun _ _ _ _ _ _ _ _ _ _ _ _ _ => by omega, fun _ _ _ _ _ _ _ _ _ _ => by omega, fun _ _ _ _ _ _ _ _ _ _ => by omega⟩
  | N + 1 => by
    obtain ⟨i1, i2, i3, i4, i5, i6⟩ := gen_all N
    exact ⟨gs_things i2, gs_simple i6, gs_right i2 i1, gs_test i2 i4, gs_statement i2 i3 i4, gs_block i5⟩
theorem gen_block (h : W s t j n S) : Wp (m_law_block [.ref s, .ref j, .int 1] S) (fun r S' => ResP (PB 1 n.method) s t j n S r S') :=
  (gen_all 80).2.2.2.2.2 s t j n S 1 h (by omega) (by omega) (by omega)
end
end Mkk02
namespace Mkk02
open PySem Mi
theorem set_mid {S T : So} {o o' : O} : (S ++ o :: T).set S.length o' = S ++ o' :: T := by
  rw [List.set_append_right _ _ (Nat.le_refl _)]
  simp
theorem get_mid {S T : So} {o : O} : (S ++ o :: T)[S.length]? = some o := by
  rw [List.getElem?_append_right (Nat.le_refl _)]
  simp
theorem get_mid' {S T : So} {o : O} {i n : Nat} (hn : n = S.length + i) (h : T[i]? = some o) : (S ++ T)[n]? = some o := by
  subst hn
  rw [List.getElem?_append_right (by omega)]
  simpa using h
theorem tools_eq {s t : Nat} {S : So} (hst : StB s t S) : Wp (m_law_tools [.ref s] S) (fun r S' => ∃ n : Tl, r = .ref S.length ∧ W s t S.length n S' ∧ n.done = false) := by
  unfold m_law_tools b_law_tools
  have hs := hst.lt
  have hlim : lim = 100000 := rfl
  refine Wp.fn ?_
  refine Wp.seq ?_
  refine Wp.asgN ?_
  refine Wp.mono (Q := fun r S' => r = .ref S.length ∧ StB s t S' ∧ ∃ (b : Bool) (i : Int), S'[S.length]? = some (.dct [(.inr "method", .bl b), (.inr "room", .int i), (.inr "done", .bl false), (.inr "at", .int (-1))])) ?_ ?_
  · fail "go"
    refine draw_at hst.app (by decide) (by decide) ?_
    intro k S1 k0 k1 hst1 g1
    fail "go"
    refine draw_at hst1 (by decide) (by decide) ?_
    intro i S2 i0 i1 hst2 g2
    have hl : S2.length = S.length + 1 := by rw [g2.1, g1.1, List.length_append]; rfl
    have hat : S2[S.length]? = some (.dct []) := by
      rw [g2.2 _ (by omega), g1.2 _ (by omega)]
      exact last_at
    fail "go"
    refine ⟨hat, Nat.le_of_ble_eq_true rfl, rfl, hst2.set (by omega) (by omega), _, _, set_at hat⟩
  rintro _ S1 ⟨rfl, hst1, b, i, hat⟩
  have hs1 := hst1.lt
  refine Wp.nx ?_
  refine Wp.seq ?_
  refine Wp.mono (Q := fun p S' => p = (.nx, [some (.ref s), some (.ref S.length)]) ∧ StB s t S' ∧ ∃ a : Int, S'[S.length]? = some (.dct [(.inr "method", .bl b), (.inr "room", .int i), (.inr "done", .bl false), (.inr "at", .int a)])) ?_ ?_
  · fail "go"
    refine draw_at hst1 (by decide) (by decide) ?_
    intro k S2 k0 k1 hst2 g2
    have hat2 := (g2.2 _ (by omega : S.length ≠ s)).trans hat
    fail "go"
    refine ⟨fun hb => ?_, fun hb => ?_⟩
    · fail "go"
      refine draw_at hst2 (by decide) (by decide) ?_
      intro a S3 a0 a1 hst3 g3
      have hat3 := (g3.2 _ (by omega : S.length ≠ s)).trans hat2
      fail "go"
      refine Wp.ok (set_dct (k := .inr "at") hat3 rfl (show 4 < lim by decide)) ?_
      exact ⟨rfl, hst3.set (by omega) (by omega), a, set_at hat3⟩
    · fail "go"
      exact ⟨hst2, _, hat2⟩
  rintro _ S2 ⟨rfl, hst2, a, hat2⟩
  fail "go"
  refine draw_at hst2 (by decide) (by decide) ?_
  intro k S3 k0 k1 hst3 g3
  have hat3 := (g3.2 _ (by omega : S.length ≠ s)).trans hat2
  fail "go"
  refine Wp.ok (set_dct (k := .inr "kind") hat3 rfl (show 4 < lim by decide)) ?_
  have hp : putD [((.inr "method" : L2.Key), D.bl b), (.inr "room", .int i), (.inr "done", .bl false), (.inr "at", .int a)] (.inr "kind") (.int k) = [(.inr "method", .bl b), (.inr "room", .int i), (.inr "done", .bl false), (.inr "at", .int a), (.inr "kind", .int k)] := rfl
  rw [hp]
  generalize hS4 : S3.set S.length (.dct [((.inr "method" : L2.Key), D.bl b), (.inr "room", .int i), (.inr "done", .bl false), (.inr "at", .int a), (.inr "kind", .int k)]) = S4
  have hst4 : StB s t S4 := by rw [← hS4]; exact hst3.set (by omega) (by omega)
  have hat4 : S4[S.length]? = some (.dct [((.inr "method" : L2.Key), D.bl b), (.inr "room", .int i), (.inr "done", .bl false), (.inr "at", .int a), (.inr "kind", .int k)]) := by rw [← hS4]; exact set_at hat3
  have hlt4 := (List.getElem?_eq_some_iff.mp hat4).1
  fail "go"
  refine pick_at hst4.app.app (by rfl) (by decide) (by decide) ?_
  intro z S5 hz hst5 g5
  have hat5 : S5[S.length]? = some (.dct [((.inr "method" : L2.Key), D.bl b), (.inr "room", .int i), (.inr "done", .bl false), (.inr "at", .int a), (.inr "kind", .int k)]) := by
    refine g5.at_ ?_ (by omega)
    rw [List.getElem?_append_left (by rw [List.length_append]; omega), List.getElem?_append_left hlt4]
    exact hat4
  have hl4 : s < S4.length := hst4.lt.1
  have a1 : S5[S4.length]? = some (.lst []) := by
    refine g5.at_ ?_ (by omega)
    rw [List.getElem?_append_left (by rw [List.length_append]; simp)]
    exact last_at
  have a2 : S5[(S4 ++ [O.lst []]).length]? = some (.dct []) := g5.at_ last_at (by rw [List.length_append]; omega)
  fail "go"
  refine Wp.ok (set_dct (k := .inr "value") hat5 rfl (show 5 < lim by decide)) ?_
  have hp2 : putD [((.inr "method" : L2.Key), D.bl b), (.inr "room", .int i), (.inr "done", .bl false), (.inr "at", .int a), (.inr "kind", .int k)] (.inr "value") z = (⟨b, i, false, a, k, z⟩ : Tl).K := rfl
  rw [hp2]
  fail "go"
  · exact (⟨b, i, false, a, k, z⟩ : Tl)
  have hty : ∀ x, (∃ ty, tyO S5 (.ref x) = some ty) → x ≠ S.length → okD (S5.set S.length (.dct (⟨b, i, false, a, k, z⟩ : Tl).K)) (.ref x) := by
    rintro x ⟨ty, h⟩ hx
    exact ⟨ty, ty_same (List.getElem?_set_ne (Ne.symm hx)) h⟩
  have hzz : okD (S5.set S.length (.dct (⟨b, i, false, a, k, z⟩ : Tl).K)) z ∧ Wrong z := by
    simp only [List.mem_cons, List.not_mem_nil, or_false] at hz
    rcases hz with rfl | rfl | rfl | rfl | rfl | rfl | rfl | rfl
    · exact ⟨trivial, wrong_no fun x ds e => by cases e⟩
    · exact ⟨trivial, wrong_no fun x ds e => by cases e⟩
    · exact ⟨trivial, wrong_no fun x ds e => by cases e⟩
    · exact ⟨by simp only [okD]; decide, wrong_no fun x ds e => by cases e⟩
    · exact ⟨by simp only [okD]; decide, wrong_no fun x ds e => by cases e⟩
    · exact ⟨hty _ ⟨_, tyr_lst a1⟩ (by omega), wrong_no fun x ds e => by cases e⟩
    · exact ⟨hty _ ⟨_, tyr_dct a2⟩ (by rw [List.length_append]; omega), wrong_no fun x ds e => by cases e⟩
    · exact ⟨by simp only [okD, okL]; decide, wrong_tab (by decide)⟩
  exact ⟨⟨hst5.set (by omega) (by omega), set_at hat5, by omega, by omega, ⟨k0, k1⟩, hzz.1, hzz.2⟩, rfl⟩
end Mkk02
namespace Mkk02
open PySem Mi
def kcl (n : Nat) : List (L2.Key × D) := [(.inr "top", .tup [.non, .str "open", .ref (n + 1), .ref (n + 2)]), (.inr "box", .tup [.str "top", .str "closed", .ref (n + 3), .ref (n + 4)])]
theorem kcl_merge {a b : D} : mergeD [] [((.inr "top" : L2.Key), a), (.inr "box", b)] = [(.inr "top", a), (.inr "box", b)] := rfl
theorem kcl_names {n : Nat} : namesK (kcl n) = (["box", "top"] : List Str) := by
  show srtS (["top", "box"] : List Str) = (["box", "top"] : List Str)
  decide +kernel
def fH : List (L2.Key × D) := [(.inr "h", .tup [.str "a"])]
def fG : List (L2.Key × D) := [(.inr "f", .tup [.str "a", .str "b"]), (.inr "g", .tup [.str "c"])]
def gs (mth : Bool) (blk : D) : List (L2.Key × D) := if mth then [(.inr "go", .tup [.tup [.str "x"], blk])] else []
def bodyV (mth : Bool) (blk : D) : D := if mth then .tup [] else blk
def partV (mth : Bool) : Str := if mth then "box.go" else "body"
/-- the program's parts -/
structure At (n : Nat) (mth : Bool) (blk : D) (S : So) : Prop where
  hn : S[n]? = some (.dct (kcl n))
  a1 : S[n + 1]? = some (.dct fH)
  a2 : S[n + 2]? = some (.dct [])
  a3 : S[n + 3]? = some (.dct fG)
  a4 : S[n + 4]? = some (.dct (gs mth blk))
  ob : okD S blk
theorem fG_names : namesK fG = (["f", "g"] : List Str) := by
  show srtS (["f", "g"] : List Str) = (["f", "g"] : List Str)
  decide +kernel
section
variable {n : Nat} {mth b : Bool} {blk : D} {S : So}
theorem At.cs (h : At n mth blk S) : okCs S (.ref n) := by
  obtain ⟨hn, a1, a2, a3, a4, ob⟩ := h
  have dd : ∀ (j : Nat) (kvs : List (L2.Key × D)), S[j]? = some (.dct kvs) → okK S kvs → okF S (.ref j) := fun j kvs hj hk => ⟨⟨_, tyr_dct hj⟩, fun i hi => by cases hi; exact .inr ⟨kvs, hj, hk⟩⟩
  have k1 : okK S fH := fun p hp => by rcases List.mem_singleton.mp hp with rfl; exact ⟨by simp only [kD, okD]; decide, by simp only [okD, okL]; decide⟩
  have k3 : okK S fG := fun p hp => by
    unfold fG at hp
    simp only [List.mem_cons, List.not_mem_nil, or_false] at hp
    rcases hp with rfl | rfl <;> exact ⟨by simp only [kD, okD]; decide, by simp only [okD, okL]; decide⟩
  have k0 : okK S [] := fun p hp => by cases hp
  have kg : okK S (gs mth blk) := fun p hp => by
    unfold gs at hp
    cases mth with
    | false => cases hp
    | true =>
      rcases List.mem_singleton.mp hp with rfl
      exact ⟨by simp only [kD, okD]; decide, by simp only [okD, okL, ob, and_true]; decide⟩
  refine ⟨⟨_, tyr_dct hn⟩, fun j hj => ?_⟩
  cases hj
  refine .inr ⟨_, hn, (show ([.inr "top", .inr "box"] : List L2.Key).Nodup from by decide), fun q hq => ?_⟩
  unfold kcl at hq
  simp only [List.mem_cons, List.not_mem_nil, or_false] at hq
  rcases hq with rfl | rfl
  · refine ⟨by simp only [kD, okD]; decide, ⟨?_, fun p m f g e => ?_⟩, fun p m f g e => ?_⟩
    · simp only [okD, okL, and_true, true_and]
      exact ⟨by decide, ⟨_, tyr_dct a1⟩, ⟨_, tyr_dct a2⟩⟩
    · cases e
      exact ⟨dd _ _ a1 k1, dd _ _ a2 k0⟩
    · cases e
      exact ⟨by simp, by simp⟩
  · refine ⟨by simp only [kD, okD]; decide, ⟨?_, fun p m f' g' e => ?_⟩, fun p m f' g' e => ?_⟩
    · simp only [okD, okL, and_true, true_and]
      exact ⟨by decide, by decide, ⟨_, tyr_dct a3⟩, ⟨_, tyr_dct a4⟩⟩
    · cases e
      exact ⟨dd _ _ a3 k3, dd _ _ a4 kg⟩
    · cases e
      exact ⟨by simp, by simp⟩
theorem At.bodyOk (h : At n mth blk S) : okD S (bodyV mth blk) := by
  unfold bodyV
  cases mth
  · exact h.ob
  · simp only [if_true, okD, okL]
theorem At.outs (h : At n mth blk S) : outsK S (kcl n) = true := by
  obtain ⟨hn, a1, a2, a3, a4, ob⟩ := h
  have hm1 : fieldsK fH = true := by decide +kernel
  have hm2 : fieldsK fG = true := by decide +kernel
  have hm3 : methsK (gs mth blk) = true := by
    cases mth with
    | false => rfl
    | true =>
      show (true && (true && ((nameB (.str "go") && namesB 3 (.tup [.str "x"])) && true))) = true
      rw [show nameB (.str "go") = true by decide +kernel, show namesB 3 (.tup [.str "x"]) = true by decide +kernel]
      rfl
  have hp : parOk (.str "top") = true := by decide +kernel
  have hk : markB (.str "closed") = true := by decide +kernel
  have q1 : outB S (.tup [.non, .str "open", .ref (n + 1), .ref (n + 2)]) = true := by
    unfold outB dictB
    simp only [a1, a2, hm1]
    decide +kernel
  have q2 : outB S (.tup [.str "top", .str "closed", .ref (n + 3), .ref (n + 4)]) = true := by
    unfold outB dictB
    simp only [a3, a4, hm2, hm3, hp, hk, Bool.and_self]
  have r1 : nameB (kD (.inr "top")) = true := by decide +kernel
  have r2 : nameB (kD (.inr "box")) = true := by decide +kernel
  have t1 : endsB (kcl n) (.inr "top") = true := rfl
  have t2 : endsB (kcl n) (.inr "box") = true := rfl
  have len : (kcl n).length = 2 := rfl
  unfold outsK
  rw [len]
  show (decide (2 ≤ 8) && ((nameB (kD (.inr "top")) && outB S _) && ((nameB (kD (.inr "box")) && outB S _) && true)) && (endsB _ (.inr "top") && (endsB _ (.inr "box") && true))) = true
  rw [q1, q2, r1, r2, t1, t2]
  rfl
theorem At.part (h : At n mth blk S) (hb : sB (plc mth 1) 1 blk = !b) : badPart S (.ref n) (bodyV mth blk) = if b then some (partV mth) else none := by
  have ho := h.outs
  obtain ⟨hn, a1, a2, a3, a4, ob⟩ := h
  have c1 : badM S (some ["box", "top"]) (clsOf (kcl n) "box") = if mth && b then some "go" else none := by
    show badM S _ (.tup [.str "top", .str "closed", .ref (n + 3), .ref (n + 4)]) = _
    unfold badM
    simp only [a3, a4, fG_names]
    show badMeth (plc true 1) _ = _
    unfold badMeth
    cases mth with
    | false => rfl
    | true =>
      have : namesK (gs true blk) = (["go"] : List Str) := rfl
      rw [this]
      have hb' : blkOf (gs true blk) "go" = blk := rfl
      simp only [List.find?_cons, hb', hb, List.find?_nil]
      cases b <;> rfl
  have c3 : badM S (some ["box", "top"]) (clsOf (kcl n) "top") = none := by
    show badM S _ (.tup [.non, .str "open", .ref (n + 1), .ref (n + 2)]) = _
    unfold badM
    simp only [a1, a2]
    rfl
  unfold badPart
  simp only [hn, ho, if_true, kcl_names, badCls, c1, c3, bodyPl]
  cases mth with
  | true =>
    have e0 : sB (⟨none, false, some ["box", "top"], false⟩ : Pl) 1 (bodyV true blk) = true := by
      show sB _ 1 (.tup []) = true
      simp [sB, sSl]
    rw [e0]
    cases b <;> rfl
  | false =>
    have e0 : sB (⟨none, false, some ["box", "top"], false⟩ : Pl) 1 (bodyV false blk) = !b := hb
    rw [e0]
    cases b <;> rfl
theorem At.flats (h : At n mth blk S) (hb : sB (plc mth 1) 1 blk = true) : (flat (bodyV mth blk) = true ∧ dep (bodyV mth blk) ≤ 100) ∧ ∀ p ∈ kcl n, ∀ q m f g fs ms, p.2 = .tup [q, m, .ref f, .ref g] → S[f]? = some (.dct fs) → S[g]? = some (.dct ms) → (flat q = true ∧ dep q ≤ 1) ∧ (flat m = true ∧ dep m ≤ 1) ∧ FlatK 60 fs ∧ FlatK 60 ms := by
  obtain ⟨hn, a1, a2, a3, a4, ob⟩ := h
  have fk := sB_flat (plc mth 1) 1 blk hb
  refine ⟨?_, ?_⟩
  · unfold bodyV
    cases mth with
    | true => exact ⟨rfl, Nat.le_of_ble_eq_true rfl⟩
    | false => exact ⟨fk.1, by have := fk.2; show dep blk ≤ 100; omega⟩
  intro p hp q m f' g' fs ms e hf hg
  unfold kcl at hp
  simp only [List.mem_cons, List.not_mem_nil, or_false] at hp
  have t60 : FlatK 60 fH := ⟨by decide, fun p hp => by rcases List.mem_singleton.mp hp with rfl; exact ⟨rfl, Nat.le_of_ble_eq_true rfl⟩⟩
  have o60 : FlatK 60 fG := ⟨by decide, fun p hp => by
    unfold fG at hp
    simp only [List.mem_cons, List.not_mem_nil, or_false] at hp
    rcases hp with rfl | rfl <;> exact ⟨rfl, Nat.le_of_ble_eq_true rfl⟩⟩
  have z60 : FlatK 60 [] := ⟨.nil, fun p hp => by cases hp⟩
  have g60 : FlatK 60 (gs mth blk) := by
    cases mth with
    | false => exact z60
    | true =>
      refine ⟨(show ([.inr "go"] : List L2.Key).Nodup from by decide), fun p hp => ?_⟩
      rcases List.mem_singleton.mp hp with rfl
      have fx : FD 48 (.tup [.str "x"]) := ⟨rfl, by show ((dep (.tup [.str "x"]) : Nat) : Int) ≤ 48; exact Int.ofNat_le.mpr (Nat.le_of_ble_eq_true rfl)⟩
      have fd : FD 50 (.tup [.tup [.str "x"], blk]) := .tup (n := 48) (.cons fx (.cons (fk.mono (by omega)) (.nil (by omega)))) (by omega)
      exact ⟨fd.1, by have := fd.2; show dep (.tup [.tup [.str "x"], blk]) ≤ 60; omega⟩
  rcases hp with rfl | rfl
  · cases e
    rw [a1] at hf
    rw [a2] at hg
    cases hf
    cases hg
    exact ⟨⟨rfl, by decide⟩, ⟨rfl, by decide⟩, t60, z60⟩
  · cases e
    rw [a3] at hf
    rw [a4] at hg
    cases hf
    cases hg
    exact ⟨⟨rfl, by decide⟩, ⟨rfl, by decide⟩, o60, g60⟩
end
end Mkk02
namespace Mkk02
open PySem Mi
theorem law_true (ns : List Int) (h : ns.length ≤ 63) : ∃ S, m_law [.frl (ns.map D.int)] [] = .ok (.bl true) S := by
  suffices hw : Wp (m_law [.frl (ns.map D.int)] []) (fun r _ => r = .bl true) by
    obtain ⟨r, S, e, rfl⟩ := hw.get
    exact ⟨S, e⟩
  unfold m_law b_law
  fail "go"
  refine (start_eq h).mono ?_
  rintro _ S0 ⟨rfl, hst0, hl0⟩
  fail "go"
  refine (tools_eq hst0).mono ?_
  rintro _ S1 ⟨n0, rfl, h1, hd0⟩
  fail "go"
  refine (gen_block h1).mono ?_
  rintro blk S2 ⟨b, m, g2, h2, hh, o2, q2⟩
  have q2' : sB (plc n0.method 1) 1 blk = !b := q2
  have hdone : m.done = b := by rw [hh.2.1, hd0, Bool.false_or]
  have hmeth : m.method = n0.method := hh.1.1
  rw [← hmeth] at q2'
  generalize hj : S0.length = j at *
  have hjlt := h2.lt
  fail "go"
  have set_last : ∀ (S : So) (o o' : O), (S ++ [o]).set S.length o' = S ++ [o'] := fun S o o' => by
    rw [List.set_append_right _ _ (Nat.le_refl _)]
    simp
  refine ⟨last_at, by decide, ?_⟩
  rw [set_last]
  fail "go"
  refine ⟨last_at, by decide, ?_⟩
  rw [set_last]
  fail "go"
  generalize hn : S2.length = n at *
  have hlen : ∀ (T : So), (S2 ++ T).length = n + T.length := fun T => by rw [List.length_append, hn]
  simp only [List.append_assoc, List.cons_append, List.nil_append, hlen, List.length_cons, List.length_nil]
  refine ⟨by rw [← hn]; exact get_mid, by decide, ?_⟩
  have hset : ∀ (o : O) (T : So) (o' : O), (S2 ++ o :: T).set n o' = S2 ++ o' :: T := fun o T o' => by rw [← hn]; exact set_mid
  rw [hset, kcl_merge]
  generalize hS5 : S2 ++ O.dct [((.inr "top" : L2.Key), D.tup [.non, .str "open", .ref (n + (0 + 1)), .ref (n + (0 + 1 + 1))]), (.inr "box", .tup [.str "top", .str "closed", .ref (n + (0 + 1 + 1 + 1)), .ref (n + (0 + 1 + 1 + 1 + 1))])] :: [O.dct (mergeD [] [((.inr "h" : L2.Key), D.tup [.str "a"])]), .dct [], .dct (mergeD [] [((.inr "f" : L2.Key), D.tup [.str "a", .str "b"]), (.inr "g", .tup [.str "c"])]), .dct []] = S5
  have hkc : kcl n = [((.inr "top" : L2.Key), D.tup [.non, .str "open", .ref (n + (0 + 1)), .ref (n + (0 + 1 + 1))]), (.inr "box", .tup [.str "top", .str "closed", .ref (n + (0 + 1 + 1 + 1)), .ref (n + (0 + 1 + 1 + 1 + 1))])] := rfl
  rw [← hkc] at hS5
  have h5 : W 2 1 j m S5 := by rw [← hS5]; exact h2.app
  have A0 : At n false blk S5 := by
    refine ⟨?_, ?_, ?_, ?_, ?_, ?_⟩
    · rw [← hS5, ← hn]; exact get_mid
    · rw [← hS5, ← hn]; exact get_mid' (i := 1) rfl rfl
    · rw [← hS5, ← hn]; exact get_mid' (i := 2) rfl rfl
    · rw [← hS5, ← hn]; exact get_mid' (i := 3) rfl rfl
    · rw [← hS5, ← hn]; exact get_mid' (i := 4) rfl rfl
    · rw [← hS5]; exact Ext.ok (Ext.app Ext.refl) o2
  clear hS5 hset hlen
  have hjn : j < n := by omega
  refine ⟨fun _ => ?_, fun z => absurd rfl z⟩
  refine Wp.seq ?_
  refine Wp.asgN ?_
  refine Wp.var rfl ?_
  refine Wp.nx ?_
  refine Wp.seq ?_
  refine Wp.asgN ?_
  refine Wp.c ?_
  refine Wp.nx ?_
  refine Wp.seq ?_
  refine Wp.mono (Q := fun p S' => p = (.nx, [some (.frl (ns.map D.int)), some (.ref 2), some (.ref j), some blk, some (.ref n), some (bodyV m.method blk), some (.str (partV m.method)), none, none, none]) ∧ At n m.method blk S' ∧ S'[j]? = some (.dct m.K)) ?_ ?_
  · fail "go"
    refine Wp.op2 (ix_method h5) ?_
    fail "go"
    cases hm : m.method with
    | true =>
      refine ⟨fun _ => ?_, fun z => by cases z⟩
      fail "go"
      refine Wp.op2 (ix_dct (k := .inr "box") A0.hn rfl rfl) ?_
      fail "go"
      refine Wp.ok (set_dct (k := .inr "go") A0.a4 rfl (show 0 < lim by decide)) ?_
      fail "go"
      refine ⟨?_, ?_⟩
      · obtain ⟨hn, a1, a2, a3, a4, ob⟩ := A0
        refine ⟨?_, ?_, ?_, ?_, set_at a4, ?_⟩
        · rw [List.getElem?_set_ne (by omega)]; exact hn
        · rw [List.getElem?_set_ne (by omega)]; exact a1
        · rw [List.getElem?_set_ne (by omega)]; exact a2
        · rw [List.getElem?_set_ne (by omega)]; exact a3
        · exact (Gr2.put (s := 0) a4).2.2 _ ob
      · rw [List.getElem?_set_ne (by omega)]; exact h5.sn
    | false =>
      refine ⟨fun z => (by cases z), fun _ => ?_⟩
      fail "go"
      exact ⟨A0, h5.sn⟩
  rintro _ S6 ⟨rfl, A, hj6⟩
  have hbp := A.part q2'
  fail "go"
  have hmr : ∀ ρ : Ro, ρ[4]? = some (some (.ref n)) → ρ[5]? = some (some (bodyV m.method blk)) → Wp ((mConsA (mVar 4) (mConsA (mVar 5) mNilA)) ρ S6) (fun ds S1 => ds = [.ref n, bodyV m.method blk] ∧ S1 = S6) := by
    intro ρ h7 h5
    refine Wp.consA (Wp.var h7 ?_)
    refine Wp.consA (Wp.var h5 ?_)
    exact ⟨rfl, rfl⟩
  refine Wp.tryX ?_
  refine Wx.asgN ?_
  refine make_program ((hmr _ rfl rfl).mono ?_)
  rintro _ _ ⟨rfl, rfl⟩
  refine ⟨_, _, rfl, A.cs, A.bodyOk, ?_, ?_⟩
  · intro n' kvs ls S' hnone e hd hn' hprog hlike hkeys
    cases hd
    rw [A.hn] at hn'
    cases hn'
    rw [hbp] at hnone
    have hb0 : b = false := by cases b <;> first | rfl | cases hnone
    subst hb0
    have hnd : ((kcl n).map (·.1)).Nodup := show ([.inr "top", .inr "box"] : List L2.Key).Nodup from by decide
    obtain ⟨hh, p1, p2, p3⟩ := id hprog
    have fl := A.flats q2'
    have hdn : ixD (.ref j) (.str "done") S' = .ok (.bl m.done) S' := ix_dct (k := .inr "done") (e.at_ hj6) rfl rfl
    rw [hdone] at hdn
    fail "go"
    refine Wp.op2 hdn ?_
    fail "go"
    refine Wp.op2 (eqD_self fl.1.1 fl.1.2) ?_
    fail "go"
    refine (classes_same A.hn e hprog hlike hkeys hnd (Nat.le_of_ble_eq_true rfl) fl.2).mono ?_
    rintro r S7 e7
    fail "go"
    refine Wp.op2 e7 ?_
    fail "go"
    rfl
  · intro p S' hp e
    refine ⟨rfl, fun ρ1 hρ => ?_⟩
    have := asg_make_ro ((hmr _ rfl rfl).mono fun _ _ _ => trivial) hρ
    subst this
    refine ⟨Nat.le_of_ble_eq_true rfl, ?_⟩
    rw [hbp] at hp
    cases b with
    | false => cases hp
    | true =>
      cases hp
      have hdn : ixD (.ref j) (.str "done") S' = .ok (.bl m.done) S' := ix_dct (k := .inr "done") (e.at_ hj6) rfl rfl
      rw [hdone] at hdn
      fail "go"
      refine Wp.op2 hdn ?_
      fail "go"
      rw [show (partV m.method == partV m.method) = true from by cases m.method <;> decide +kernel]
end Mkk02
namespace Mkk02
open PySem PySem.Spec PyProof.Rows L2 Mi
theorem all_mk {l : PySem.W.OpenLaw} {w : World} {K : PySem.W.Frag} {h : Heap} {mg : Str → Option Value} {fa C_Place C_StandError C_BadProgram C_Program a_is_name a_are_names a_head a_Place_has_field a_Place_has_class a_Place___init__ a_Place_within_function a_is_simple a_are_things a_is_right a_is_test T_is_test a_is_short a_is_statement a_is_block a_are_fields a_are_methods a_is_outline a_parents_end a_are_outlines a_bad_method a_copied a_copied_classes a_bad_part a_law_mix a_law_start a_law_draw a_law_tools a_law_hit a_law_part a_law_row a_law_name a_law_params a_law_things a_law_simple a_law_right a_law_test a_law_statement a_law_block a_Program___init__ a_Program_classes a_law p_Program_classes i_BadProgram cda_BadProgram cc_BadProgram : Addr} {oc_is_name kV_is_name dc_is_name pm_is_name cd_is_name ct_is_name : Value} {od_is_name an_is_name : Option Addr} {sl_is_name : Array (Option Value)} {oc_are_names kV_are_names dc_are_names pm_are_names cd_are_names ct_are_names : Value} {od_are_names an_are_names : Option Addr} {sl_are_names : Array (Option Value)} {oc_head kV_head dc_head pm_head cd_head ct_head : Value} {od_head an_head : Option Addr} {sl_head : Array (Option Value)} {oc_Place_has_field kV_Place_has_field dc_Place_has_field pm_Place_has_field cd_Place_has_field ct_Place_has_field : Value} {od_Place_has_field an_Place_has_field : Option Addr} {sl_Place_has_field : Array (Option Value)} {oc_Place_has_class kV_Place_has_class dc_Place_has_class pm_Place_has_class cd_Place_has_class ct_Place_has_class : Value} {od_Place_has_class an_Place_has_class : Option Addr} {sl_Place_has_class : Array (Option Value)} {oc_Place___init__ kV_Place___init__ dc_Place___init__ pm_Place___init__ cd_Place___init__ ct_Place___init__ : Value} {od_Place___init__ an_Place___init__ : Option Addr} {sl_Place___init__ : Array (Option Value)} {oc_Place_within_function kV_Place_within_function dc_Place_within_function pm_Place_within_function cd_Place_within_function ct_Place_within_function : Value} {od_Place_within_function an_Place_within_function : Option Addr} {sl_Place_within_function : Array (Option Value)} {oc_is_simple kV_is_simple dc_is_simple pm_is_simple cd_is_simple ct_is_simple : Value} {od_is_simple an_is_simple : Option Addr} {sl_is_simple : Array (Option Value)} {oc_are_things kV_are_things dc_are_things pm_are_things cd_are_things ct_are_things : Value} {od_are_things an_are_things : Option Addr} {sl_are_things : Array (Option Value)} {oc_is_right kV_is_right dc_is_right pm_is_right cd_is_right ct_is_right : Value} {od_is_right an_is_right : Option Addr} {sl_is_right : Array (Option Value)} {oc_is_test kV_is_test dc_is_test pm_is_test cd_is_test ct_is_test : Value} {od_is_test an_is_test : Option Addr} {sl_is_test : Array (Option Value)} {to_is_test : Obj} {ti_is_test : List Value} {tn_is_test : Nat} {oc_is_short kV_is_short dc_is_short pm_is_short cd_is_short ct_is_short : Value} {od_is_short an_is_short : Option Addr} {sl_is_short : Array (Option Value)} {oc_is_statement kV_is_statement dc_is_statement pm_is_statement cd_is_statement ct_is_statement : Value} {od_is_statement an_is_statement : Option Addr} {sl_is_statement : Array (Option Value)} {oc_is_block kV_is_block dc_is_block pm_is_block cd_is_block ct_is_block : Value} {od_is_block an_is_block : Option Addr} {sl_is_block : Array (Option Value)} {oc_are_fields kV_are_fields dc_are_fields pm_are_fields cd_are_fields ct_are_fields : Value} {od_are_fields an_are_fields : Option Addr} {sl_are_fields : Array (Option Value)} {oc_are_methods kV_are_methods dc_are_methods pm_are_methods cd_are_methods ct_are_methods : Value} {od_are_methods an_are_methods : Option Addr} {sl_are_methods : Array (Option Value)} {oc_is_outline kV_is_outline dc_is_outline pm_is_outline cd_is_outline ct_is_outline : Value} {od_is_outline an_is_outline : Option Addr} {sl_is_outline : Array (Option Value)} {oc_parents_end kV_parents_end dc_parents_end pm_parents_end cd_parents_end ct_parents_end : Value} {od_parents_end an_parents_end : Option Addr} {sl_parents_end : Array (Option Value)} {oc_are_outlines kV_are_outlines dc_are_outlines pm_are_outlines cd_are_outlines ct_are_outlines : Value} {od_are_outlines an_are_outlines : Option Addr} {sl_are_outlines : Array (Option Value)} {oc_bad_method kV_bad_method dc_bad_method pm_bad_method cd_bad_method ct_bad_method : Value} {od_bad_method an_bad_method : Option Addr} {sl_bad_method : Array (Option Value)} {oc_copied kV_copied dc_copied pm_copied cd_copied ct_copied : Value} {od_copied an_copied : Option Addr} {sl_copied : Array (Option Value)} {oc_copied_classes kV_copied_classes dc_copied_classes pm_copied_classes cd_copied_classes ct_copied_classes : Value} {od_copied_classes an_copied_classes : Option Addr} {sl_copied_classes : Array (Option Value)} {oc_bad_part kV_bad_part dc_bad_part pm_bad_part cd_bad_part ct_bad_part : Value} {od_bad_part an_bad_part : Option Addr} {sl_bad_part : Array (Option Value)} {oc_law_mix kV_law_mix dc_law_mix pm_law_mix cd_law_mix ct_law_mix : Value} {od_law_mix an_law_mix : Option Addr} {sl_law_mix : Array (Option Value)} {oc_law_start kV_law_start dc_law_start pm_law_start cd_law_start ct_law_start : Value} {od_law_start an_law_start : Option Addr} {sl_law_start : Array (Option Value)} {oc_law_draw kV_law_draw dc_law_draw pm_law_draw cd_law_draw ct_law_draw : Value} {od_law_draw an_law_draw : Option Addr} {sl_law_draw : Array (Option Value)} {oc_law_tools kV_law_tools dc_law_tools pm_law_tools cd_law_tools ct_law_tools : Value} {od_law_tools an_law_tools : Option Addr} {sl_law_tools : Array (Option Value)} {oc_law_hit kV_law_hit dc_law_hit pm_law_hit cd_law_hit ct_law_hit : Value} {od_law_hit an_law_hit : Option Addr} {sl_law_hit : Array (Option Value)} {oc_law_part kV_law_part dc_law_part pm_law_part cd_law_part ct_law_part : Value} {od_law_part an_law_part : Option Addr} {sl_law_part : Array (Option Value)} {oc_law_row kV_law_row dc_law_row pm_law_row cd_law_row ct_law_row : Value} {od_law_row an_law_row : Option Addr} {sl_law_row : Array (Option Value)} {oc_law_name kV_law_name dc_law_name pm_law_name cd_law_name ct_law_name : Value} {od_law_name an_law_name : Option Addr} {sl_law_name : Array (Option Value)} {oc_law_params kV_law_params dc_law_params pm_law_params cd_law_params ct_law_params : Value} {od_law_params an_law_params : Option Addr} {sl_law_params : Array (Option Value)} {oc_law_things kV_law_things dc_law_things pm_law_things cd_law_things ct_law_things : Value} {od_law_things an_law_things : Option Addr} {sl_law_things : Array (Option Value)} {oc_law_simple kV_law_simple dc_law_simple pm_law_simple cd_law_simple ct_law_simple : Value} {od_law_simple an_law_simple : Option Addr} {sl_law_simple : Array (Option Value)} {oc_law_right kV_law_right dc_law_right pm_law_right cd_law_right ct_law_right : Value} {od_law_right an_law_right : Option Addr} {sl_law_right : Array (Option Value)} {oc_law_test kV_law_test dc_law_test pm_law_test cd_law_test ct_law_test : Value} {od_law_test an_law_test : Option Addr} {sl_law_test : Array (Option Value)} {oc_law_statement kV_law_statement dc_law_statement pm_law_statement cd_law_statement ct_law_statement : Value} {od_law_statement an_law_statement : Option Addr} {sl_law_statement : Array (Option Value)} {oc_law_block kV_law_block dc_law_block pm_law_block cd_law_block ct_law_block : Value} {od_law_block an_law_block : Option Addr} {sl_law_block : Array (Option Value)} {oc_Program___init__ kV_Program___init__ dc_Program___init__ pm_Program___init__ cd_Program___init__ ct_Program___init__ : Value} {od_Program___init__ an_Program___init__ : Option Addr} {sl_Program___init__ : Array (Option Value)} {oc_Program_classes kV_Program_classes dc_Program_classes pm_Program_classes cd_Program_classes ct_Program_classes : Value} {od_Program_classes an_Program_classes : Option Addr} {sl_Program_classes : Array (Option Value)} {oc_law kV_law dc_law pm_law cd_law ct_law : Value} {od_law an_law : Option Addr} {sl_law : Array (Option Value)} {rs_Program_classes : List Value} {tk_LETTERS : Tok} {tk_MOST_STATEMENTS : Tok} {tk_MOST_DEEP : Tok} {tk_MOST_PARAMS : Tok} {tk_MOST_THINGS : Tok} {tk_MOST_CLASSES : Tok} {tk_MOST_FIELDS : Tok} {tk_MOST_WORDS : Tok} {tk_MOST_METHODS : Tok} {oc_BadProgram kV_BadProgram dc_BadProgram pm_BadProgram ct_BadProgram ccl_BadProgram cll_BadProgram : Value} {od_BadProgram an_BadProgram cdd_BadProgram cld_BadProgram : Option Addr} {sl_BadProgram ccs_BadProgram csl_BadProgram : Array (Option Value)} {vs_BadProgram : Array Value} {file_BadProgram : Str} {tf_BadProgram : Tok} {nm_BadProgram qn_BadProgram : Str} {N_BadProgram : Addr} {bs_BadProgram bm_BadProgram sub_BadProgram : List Value} {sn_BadProgram : List Str} {ab_BadProgram : Bool} {col_BadProgram : Option Bool} {dd_BadProgram : Option Addr} {k0_BadProgram k1o_BadProgram k2o_BadProgram k3_BadProgram k5_BadProgram : Option Value}
    (X : K.In h) (G : h.Ns mainGlobals mg) (hfa : mg "law" = some (.ref fa))
    (n1_Place : PySem.W.nsIn K mainGlobals "Place" = some (some (.ref C_Place)))
    (n1_StandError : PySem.W.nsIn K mainGlobals "StandError" = some (some (.ref C_StandError)))
    (n1_BadProgram : PySem.W.nsIn K mainGlobals "BadProgram" = some (some (.ref C_BadProgram)))
    (n1_Program : PySem.W.nsIn K mainGlobals "Program" = some (some (.ref C_Program)))
    (ma_Place_has_field : PySem.W.findIn K (.ref C_Place) "has_field" = some (some (.ref a_Place_has_field)))
    (ma_Place_has_class : PySem.W.findIn K (.ref C_Place) "has_class" = some (some (.ref a_Place_has_class)))
    (ma_Place___init__ : PySem.W.findIn K (.ref C_Place) "__init__" = some (some (.ref a_Place___init__)))
    (ma_Place_within_function : PySem.W.findIn K (.ref C_Place) "within_function" = some (some (.ref a_Place_within_function)))
    (ma_Program___init__ : PySem.W.findIn K (.ref C_Program) "__init__" = some (some (.ref a_Program___init__)))
    (pa_Program_classes : PySem.W.findIn K (.ref C_Program) "classes" = some (some (.ref p_Program_classes)))
    (pr_Program_classes : PySem.W.recIn K p_Program_classes "property" = some (.ref a_Program_classes :: rs_Program_classes))
    (n1_is_name : PySem.W.nsIn K mainGlobals "is_name" = some (some (.ref a_is_name)))
    (l_is_name : K.lookup a_is_name = some ⟨oc_is_name, od_is_name, .func (PySem.W.fnOf "is_name" "is_name" (defArgs (top 6)) (defBody (top 6)) (defScope (top 6)) .none kV_is_name dc_is_name pm_is_name an_is_name cd_is_name ct_is_name), sl_is_name⟩)
    (k1_is_name : PySem.W.codeIn K cd_is_name "is_name" = true)
    (k2_is_name : PySem.W.keepIn K (.ref a_is_name) = true)
    (n1_are_names : PySem.W.nsIn K mainGlobals "are_names" = some (some (.ref a_are_names)))
    (l_are_names : K.lookup a_are_names = some ⟨oc_are_names, od_are_names, .func (PySem.W.fnOf "are_names" "are_names" (defArgs (top 7)) (defBody (top 7)) (defScope (top 7)) .none kV_are_names dc_are_names pm_are_names an_are_names cd_are_names ct_are_names), sl_are_names⟩)
    (k1_are_names : PySem.W.codeIn K cd_are_names "are_names" = true)
    (k2_are_names : PySem.W.keepIn K (.ref a_are_names) = true)
    (n1_head : PySem.W.nsIn K mainGlobals "head" = some (some (.ref a_head)))
    (l_head : K.lookup a_head = some ⟨oc_head, od_head, .func (PySem.W.fnOf "head" "head" (defArgs (top 8)) (defBody (top 8)) (defScope (top 8)) .none kV_head dc_head pm_head an_head cd_head ct_head), sl_head⟩)
    (k1_head : PySem.W.codeIn K cd_head "head" = true)
    (k2_head : PySem.W.keepIn K (.ref a_head) = true)
    (l_Place_has_field : K.lookup a_Place_has_field = some ⟨oc_Place_has_field, od_Place_has_field, .func (PySem.W.fnOf "has_field" "Place.has_field" (defArgs (inClass (top 9) 2)) (defBody (inClass (top 9) 2)) (defScope (inClass (top 9) 2)) .none kV_Place_has_field dc_Place_has_field pm_Place_has_field an_Place_has_field cd_Place_has_field ct_Place_has_field), sl_Place_has_field⟩)
    (k1_Place_has_field : PySem.W.codeIn K cd_Place_has_field "Place.has_field" = true)
    (k2_Place_has_field : PySem.W.keepIn K (.ref a_Place_has_field) = true)
    (l_Place_has_class : K.lookup a_Place_has_class = some ⟨oc_Place_has_class, od_Place_has_class, .func (PySem.W.fnOf "has_class" "Place.has_class" (defArgs (inClass (top 9) 3)) (defBody (inClass (top 9) 3)) (defScope (inClass (top 9) 3)) .none kV_Place_has_class dc_Place_has_class pm_Place_has_class an_Place_has_class cd_Place_has_class ct_Place_has_class), sl_Place_has_class⟩)
    (k1_Place_has_class : PySem.W.codeIn K cd_Place_has_class "Place.has_class" = true)
    (k2_Place_has_class : PySem.W.keepIn K (.ref a_Place_has_class) = true)
    (l_Place___init__ : K.lookup a_Place___init__ = some ⟨oc_Place___init__, od_Place___init__, .func (PySem.W.fnOf "__init__" "Place.__init__" (defArgs (inClass (top 9) 0)) (defBody (inClass (top 9) 0)) (defScope (inClass (top 9) 0)) .none kV_Place___init__ dc_Place___init__ pm_Place___init__ an_Place___init__ cd_Place___init__ ct_Place___init__), sl_Place___init__⟩)
    (k1_Place___init__ : PySem.W.codeIn K cd_Place___init__ "Place.__init__" = true)
    (k2_Place___init__ : PySem.W.keepIn K (.ref a_Place___init__) = true)
    (l_Place_within_function : K.lookup a_Place_within_function = some ⟨oc_Place_within_function, od_Place_within_function, .func (PySem.W.fnOf "within_function" "Place.within_function" (defArgs (inClass (top 9) 1)) (defBody (inClass (top 9) 1)) (defScope (inClass (top 9) 1)) .none kV_Place_within_function dc_Place_within_function pm_Place_within_function an_Place_within_function cd_Place_within_function ct_Place_within_function), sl_Place_within_function⟩)
    (k1_Place_within_function : PySem.W.codeIn K cd_Place_within_function "Place.within_function" = true)
    (k2_Place_within_function : PySem.W.keepIn K (.ref a_Place_within_function) = true)
    (n1_is_simple : PySem.W.nsIn K mainGlobals "is_simple" = some (some (.ref a_is_simple)))
    (l_is_simple : K.lookup a_is_simple = some ⟨oc_is_simple, od_is_simple, .func (PySem.W.fnOf "is_simple" "is_simple" (defArgs (top 10)) (defBody (top 10)) (defScope (top 10)) .none kV_is_simple dc_is_simple pm_is_simple an_is_simple cd_is_simple ct_is_simple), sl_is_simple⟩)
    (k1_is_simple : PySem.W.codeIn K cd_is_simple "is_simple" = true)
    (k2_is_simple : PySem.W.keepIn K (.ref a_is_simple) = true)
    (n1_are_things : PySem.W.nsIn K mainGlobals "are_things" = some (some (.ref a_are_things)))
    (l_are_things : K.lookup a_are_things = some ⟨oc_are_things, od_are_things, .func (PySem.W.fnOf "are_things" "are_things" (defArgs (top 11)) (defBody (top 11)) (defScope (top 11)) .none kV_are_things dc_are_things pm_are_things an_are_things cd_are_things ct_are_things), sl_are_things⟩)
    (k1_are_things : PySem.W.codeIn K cd_are_things "are_things" = true)
    (k2_are_things : PySem.W.keepIn K (.ref a_are_things) = true)
    (n1_is_right : PySem.W.nsIn K mainGlobals "is_right" = some (some (.ref a_is_right)))
    (l_is_right : K.lookup a_is_right = some ⟨oc_is_right, od_is_right, .func (PySem.W.fnOf "is_right" "is_right" (defArgs (top 12)) (defBody (top 12)) (defScope (top 12)) .none kV_is_right dc_is_right pm_is_right an_is_right cd_is_right ct_is_right), sl_is_right⟩)
    (k1_is_right : PySem.W.codeIn K cd_is_right "is_right" = true)
    (k2_is_right : PySem.W.keepIn K (.ref a_is_right) = true)
    (n1_is_test : PySem.W.nsIn K mainGlobals "is_test" = some (some (.ref a_is_test)))
    (l_is_test : K.lookup a_is_test = some ⟨oc_is_test, od_is_test, .func (PySem.W.fnOf "is_test" "is_test" (defArgs (top 13)) (defBody (top 13)) (defScope (top 13)) (.ref T_is_test) kV_is_test dc_is_test pm_is_test an_is_test cd_is_test ct_is_test), sl_is_test⟩)
    (k1_is_test : PySem.W.codeIn K cd_is_test "is_test" = true)
    (k2_is_test : PySem.W.keepIn K (.ref a_is_test) = true)
    (lT_is_test : K.lookup T_is_test = some to_is_test)
    (oT_is_test : to_is_test.data = .seq ti_is_test.toArray tn_is_test)
    (vT_is_test : Vals [(L2.V.int 3)] ti_is_test)
    (n1_is_short : PySem.W.nsIn K mainGlobals "is_short" = some (some (.ref a_is_short)))
    (l_is_short : K.lookup a_is_short = some ⟨oc_is_short, od_is_short, .func (PySem.W.fnOf "is_short" "is_short" (defArgs (top 14)) (defBody (top 14)) (defScope (top 14)) .none kV_is_short dc_is_short pm_is_short an_is_short cd_is_short ct_is_short), sl_is_short⟩)
    (k1_is_short : PySem.W.codeIn K cd_is_short "is_short" = true)
    (k2_is_short : PySem.W.keepIn K (.ref a_is_short) = true)
    (n1_is_statement : PySem.W.nsIn K mainGlobals "is_statement" = some (some (.ref a_is_statement)))
    (l_is_statement : K.lookup a_is_statement = some ⟨oc_is_statement, od_is_statement, .func (PySem.W.fnOf "is_statement" "is_statement" (defArgs (top 15)) (defBody (top 15)) (defScope (top 15)) .none kV_is_statement dc_is_statement pm_is_statement an_is_statement cd_is_statement ct_is_statement), sl_is_statement⟩)
    (k1_is_statement : PySem.W.codeIn K cd_is_statement "is_statement" = true)
    (k2_is_statement : PySem.W.keepIn K (.ref a_is_statement) = true)
    (n1_is_block : PySem.W.nsIn K mainGlobals "is_block" = some (some (.ref a_is_block)))
    (l_is_block : K.lookup a_is_block = some ⟨oc_is_block, od_is_block, .func (PySem.W.fnOf "is_block" "is_block" (defArgs (top 16)) (defBody (top 16)) (defScope (top 16)) .none kV_is_block dc_is_block pm_is_block an_is_block cd_is_block ct_is_block), sl_is_block⟩)
    (k1_is_block : PySem.W.codeIn K cd_is_block "is_block" = true)
    (k2_is_block : PySem.W.keepIn K (.ref a_is_block) = true)
    (n1_are_fields : PySem.W.nsIn K mainGlobals "are_fields" = some (some (.ref a_are_fields)))
    (l_are_fields : K.lookup a_are_fields = some ⟨oc_are_fields, od_are_fields, .func (PySem.W.fnOf "are_fields" "are_fields" (defArgs (top 22)) (defBody (top 22)) (defScope (top 22)) .none kV_are_fields dc_are_fields pm_are_fields an_are_fields cd_are_fields ct_are_fields), sl_are_fields⟩)
    (k1_are_fields : PySem.W.codeIn K cd_are_fields "are_fields" = true)
    (k2_are_fields : PySem.W.keepIn K (.ref a_are_fields) = true)
    (n1_are_methods : PySem.W.nsIn K mainGlobals "are_methods" = some (some (.ref a_are_methods)))
    (l_are_methods : K.lookup a_are_methods = some ⟨oc_are_methods, od_are_methods, .func (PySem.W.fnOf "are_methods" "are_methods" (defArgs (top 23)) (defBody (top 23)) (defScope (top 23)) .none kV_are_methods dc_are_methods pm_are_methods an_are_methods cd_are_methods ct_are_methods), sl_are_methods⟩)
    (k1_are_methods : PySem.W.codeIn K cd_are_methods "are_methods" = true)
    (k2_are_methods : PySem.W.keepIn K (.ref a_are_methods) = true)
    (n1_is_outline : PySem.W.nsIn K mainGlobals "is_outline" = some (some (.ref a_is_outline)))
    (l_is_outline : K.lookup a_is_outline = some ⟨oc_is_outline, od_is_outline, .func (PySem.W.fnOf "is_outline" "is_outline" (defArgs (top 24)) (defBody (top 24)) (defScope (top 24)) .none kV_is_outline dc_is_outline pm_is_outline an_is_outline cd_is_outline ct_is_outline), sl_is_outline⟩)
    (k1_is_outline : PySem.W.codeIn K cd_is_outline "is_outline" = true)
    (k2_is_outline : PySem.W.keepIn K (.ref a_is_outline) = true)
    (n1_parents_end : PySem.W.nsIn K mainGlobals "parents_end" = some (some (.ref a_parents_end)))
    (l_parents_end : K.lookup a_parents_end = some ⟨oc_parents_end, od_parents_end, .func (PySem.W.fnOf "parents_end" "parents_end" (defArgs (top 25)) (defBody (top 25)) (defScope (top 25)) .none kV_parents_end dc_parents_end pm_parents_end an_parents_end cd_parents_end ct_parents_end), sl_parents_end⟩)
    (k1_parents_end : PySem.W.codeIn K cd_parents_end "parents_end" = true)
    (k2_parents_end : PySem.W.keepIn K (.ref a_parents_end) = true)
    (n1_are_outlines : PySem.W.nsIn K mainGlobals "are_outlines" = some (some (.ref a_are_outlines)))
    (l_are_outlines : K.lookup a_are_outlines = some ⟨oc_are_outlines, od_are_outlines, .func (PySem.W.fnOf "are_outlines" "are_outlines" (defArgs (top 26)) (defBody (top 26)) (defScope (top 26)) .none kV_are_outlines dc_are_outlines pm_are_outlines an_are_outlines cd_are_outlines ct_are_outlines), sl_are_outlines⟩)
    (k1_are_outlines : PySem.W.codeIn K cd_are_outlines "are_outlines" = true)
    (k2_are_outlines : PySem.W.keepIn K (.ref a_are_outlines) = true)
    (n1_bad_method : PySem.W.nsIn K mainGlobals "bad_method" = some (some (.ref a_bad_method)))
    (l_bad_method : K.lookup a_bad_method = some ⟨oc_bad_method, od_bad_method, .func (PySem.W.fnOf "bad_method" "bad_method" (defArgs (top 27)) (defBody (top 27)) (defScope (top 27)) .none kV_bad_method dc_bad_method pm_bad_method an_bad_method cd_bad_method ct_bad_method), sl_bad_method⟩)
    (k1_bad_method : PySem.W.codeIn K cd_bad_method "bad_method" = true)
    (k2_bad_method : PySem.W.keepIn K (.ref a_bad_method) = true)
    (n1_copied : PySem.W.nsIn K mainGlobals "copied" = some (some (.ref a_copied)))
    (l_copied : K.lookup a_copied = some ⟨oc_copied, od_copied, .func (PySem.W.fnOf "copied" "copied" (defArgs (top 28)) (defBody (top 28)) (defScope (top 28)) .none kV_copied dc_copied pm_copied an_copied cd_copied ct_copied), sl_copied⟩)
    (k1_copied : PySem.W.codeIn K cd_copied "copied" = true)
    (k2_copied : PySem.W.keepIn K (.ref a_copied) = true)
    (n1_copied_classes : PySem.W.nsIn K mainGlobals "copied_classes" = some (some (.ref a_copied_classes)))
    (l_copied_classes : K.lookup a_copied_classes = some ⟨oc_copied_classes, od_copied_classes, .func (PySem.W.fnOf "copied_classes" "copied_classes" (defArgs (top 29)) (defBody (top 29)) (defScope (top 29)) .none kV_copied_classes dc_copied_classes pm_copied_classes an_copied_classes cd_copied_classes ct_copied_classes), sl_copied_classes⟩)
    (k1_copied_classes : PySem.W.codeIn K cd_copied_classes "copied_classes" = true)
    (k2_copied_classes : PySem.W.keepIn K (.ref a_copied_classes) = true)
    (n1_bad_part : PySem.W.nsIn K mainGlobals "bad_part" = some (some (.ref a_bad_part)))
    (l_bad_part : K.lookup a_bad_part = some ⟨oc_bad_part, od_bad_part, .func (PySem.W.fnOf "bad_part" "bad_part" (defArgs (top 34)) (defBody (top 34)) (defScope (top 34)) .none kV_bad_part dc_bad_part pm_bad_part an_bad_part cd_bad_part ct_bad_part), sl_bad_part⟩)
    (k1_bad_part : PySem.W.codeIn K cd_bad_part "bad_part" = true)
    (k2_bad_part : PySem.W.keepIn K (.ref a_bad_part) = true)
    (n1_law_mix : PySem.W.nsIn K mainGlobals "_law_mix" = some (some (.ref a_law_mix)))
    (l_law_mix : K.lookup a_law_mix = some ⟨oc_law_mix, od_law_mix, .func (PySem.W.fnOf "_law_mix" "_law_mix" (defArgs (top 37)) (defBody (top 37)) (defScope (top 37)) .none kV_law_mix dc_law_mix pm_law_mix an_law_mix cd_law_mix ct_law_mix), sl_law_mix⟩)
    (k1_law_mix : PySem.W.codeIn K cd_law_mix "_law_mix" = true)
    (k2_law_mix : PySem.W.keepIn K (.ref a_law_mix) = true)
    (n1_law_start : PySem.W.nsIn K mainGlobals "_law_start" = some (some (.ref a_law_start)))
    (l_law_start : K.lookup a_law_start = some ⟨oc_law_start, od_law_start, .func (PySem.W.fnOf "_law_start" "_law_start" (defArgs (top 38)) (defBody (top 38)) (defScope (top 38)) .none kV_law_start dc_law_start pm_law_start an_law_start cd_law_start ct_law_start), sl_law_start⟩)
    (k1_law_start : PySem.W.codeIn K cd_law_start "_law_start" = true)
    (k2_law_start : PySem.W.keepIn K (.ref a_law_start) = true)
    (n1_law_draw : PySem.W.nsIn K mainGlobals "_law_draw" = some (some (.ref a_law_draw)))
    (l_law_draw : K.lookup a_law_draw = some ⟨oc_law_draw, od_law_draw, .func (PySem.W.fnOf "_law_draw" "_law_draw" (defArgs (top 39)) (defBody (top 39)) (defScope (top 39)) .none kV_law_draw dc_law_draw pm_law_draw an_law_draw cd_law_draw ct_law_draw), sl_law_draw⟩)
    (k1_law_draw : PySem.W.codeIn K cd_law_draw "_law_draw" = true)
    (k2_law_draw : PySem.W.keepIn K (.ref a_law_draw) = true)
    (n1_law_tools : PySem.W.nsIn K mainGlobals "_law_tools" = some (some (.ref a_law_tools)))
    (l_law_tools : K.lookup a_law_tools = some ⟨oc_law_tools, od_law_tools, .func (PySem.W.fnOf "_law_tools" "_law_tools" (defArgs (top 40)) (defBody (top 40)) (defScope (top 40)) .none kV_law_tools dc_law_tools pm_law_tools an_law_tools cd_law_tools ct_law_tools), sl_law_tools⟩)
    (k1_law_tools : PySem.W.codeIn K cd_law_tools "_law_tools" = true)
    (k2_law_tools : PySem.W.keepIn K (.ref a_law_tools) = true)
    (n1_law_hit : PySem.W.nsIn K mainGlobals "_law_hit" = some (some (.ref a_law_hit)))
    (l_law_hit : K.lookup a_law_hit = some ⟨oc_law_hit, od_law_hit, .func (PySem.W.fnOf "_law_hit" "_law_hit" (defArgs (top 41)) (defBody (top 41)) (defScope (top 41)) .none kV_law_hit dc_law_hit pm_law_hit an_law_hit cd_law_hit ct_law_hit), sl_law_hit⟩)
    (k1_law_hit : PySem.W.codeIn K cd_law_hit "_law_hit" = true)
    (k2_law_hit : PySem.W.keepIn K (.ref a_law_hit) = true)
    (n1_law_part : PySem.W.nsIn K mainGlobals "_law_part" = some (some (.ref a_law_part)))
    (l_law_part : K.lookup a_law_part = some ⟨oc_law_part, od_law_part, .func (PySem.W.fnOf "_law_part" "_law_part" (defArgs (top 42)) (defBody (top 42)) (defScope (top 42)) .none kV_law_part dc_law_part pm_law_part an_law_part cd_law_part ct_law_part), sl_law_part⟩)
    (k1_law_part : PySem.W.codeIn K cd_law_part "_law_part" = true)
    (k2_law_part : PySem.W.keepIn K (.ref a_law_part) = true)
    (n1_law_row : PySem.W.nsIn K mainGlobals "_law_row" = some (some (.ref a_law_row)))
    (l_law_row : K.lookup a_law_row = some ⟨oc_law_row, od_law_row, .func (PySem.W.fnOf "_law_row" "_law_row" (defArgs (top 43)) (defBody (top 43)) (defScope (top 43)) .none kV_law_row dc_law_row pm_law_row an_law_row cd_law_row ct_law_row), sl_law_row⟩)
    (k1_law_row : PySem.W.codeIn K cd_law_row "_law_row" = true)
    (k2_law_row : PySem.W.keepIn K (.ref a_law_row) = true)
    (n1_law_name : PySem.W.nsIn K mainGlobals "_law_name" = some (some (.ref a_law_name)))
    (l_law_name : K.lookup a_law_name = some ⟨oc_law_name, od_law_name, .func (PySem.W.fnOf "_law_name" "_law_name" (defArgs (top 44)) (defBody (top 44)) (defScope (top 44)) .none kV_law_name dc_law_name pm_law_name an_law_name cd_law_name ct_law_name), sl_law_name⟩)
    (k1_law_name : PySem.W.codeIn K cd_law_name "_law_name" = true)
    (k2_law_name : PySem.W.keepIn K (.ref a_law_name) = true)
    (n1_law_params : PySem.W.nsIn K mainGlobals "_law_params" = some (some (.ref a_law_params)))
    (l_law_params : K.lookup a_law_params = some ⟨oc_law_params, od_law_params, .func (PySem.W.fnOf "_law_params" "_law_params" (defArgs (top 45)) (defBody (top 45)) (defScope (top 45)) .none kV_law_params dc_law_params pm_law_params an_law_params cd_law_params ct_law_params), sl_law_params⟩)
    (k1_law_params : PySem.W.codeIn K cd_law_params "_law_params" = true)
    (k2_law_params : PySem.W.keepIn K (.ref a_law_params) = true)
    (n1_law_things : PySem.W.nsIn K mainGlobals "_law_things" = some (some (.ref a_law_things)))
    (l_law_things : K.lookup a_law_things = some ⟨oc_law_things, od_law_things, .func (PySem.W.fnOf "_law_things" "_law_things" (defArgs (top 46)) (defBody (top 46)) (defScope (top 46)) .none kV_law_things dc_law_things pm_law_things an_law_things cd_law_things ct_law_things), sl_law_things⟩)
    (k1_law_things : PySem.W.codeIn K cd_law_things "_law_things" = true)
    (k2_law_things : PySem.W.keepIn K (.ref a_law_things) = true)
    (n1_law_simple : PySem.W.nsIn K mainGlobals "_law_simple" = some (some (.ref a_law_simple)))
    (l_law_simple : K.lookup a_law_simple = some ⟨oc_law_simple, od_law_simple, .func (PySem.W.fnOf "_law_simple" "_law_simple" (defArgs (top 47)) (defBody (top 47)) (defScope (top 47)) .none kV_law_simple dc_law_simple pm_law_simple an_law_simple cd_law_simple ct_law_simple), sl_law_simple⟩)
    (k1_law_simple : PySem.W.codeIn K cd_law_simple "_law_simple" = true)
    (k2_law_simple : PySem.W.keepIn K (.ref a_law_simple) = true)
    (n1_law_right : PySem.W.nsIn K mainGlobals "_law_right" = some (some (.ref a_law_right)))
    (l_law_right : K.lookup a_law_right = some ⟨oc_law_right, od_law_right, .func (PySem.W.fnOf "_law_right" "_law_right" (defArgs (top 48)) (defBody (top 48)) (defScope (top 48)) .none kV_law_right dc_law_right pm_law_right an_law_right cd_law_right ct_law_right), sl_law_right⟩)
    (k1_law_right : PySem.W.codeIn K cd_law_right "_law_right" = true)
    (k2_law_right : PySem.W.keepIn K (.ref a_law_right) = true)
    (n1_law_test : PySem.W.nsIn K mainGlobals "_law_test" = some (some (.ref a_law_test)))
    (l_law_test : K.lookup a_law_test = some ⟨oc_law_test, od_law_test, .func (PySem.W.fnOf "_law_test" "_law_test" (defArgs (top 49)) (defBody (top 49)) (defScope (top 49)) .none kV_law_test dc_law_test pm_law_test an_law_test cd_law_test ct_law_test), sl_law_test⟩)
    (k1_law_test : PySem.W.codeIn K cd_law_test "_law_test" = true)
    (k2_law_test : PySem.W.keepIn K (.ref a_law_test) = true)
    (n1_law_statement : PySem.W.nsIn K mainGlobals "_law_statement" = some (some (.ref a_law_statement)))
    (l_law_statement : K.lookup a_law_statement = some ⟨oc_law_statement, od_law_statement, .func (PySem.W.fnOf "_law_statement" "_law_statement" (defArgs (top 50)) (defBody (top 50)) (defScope (top 50)) .none kV_law_statement dc_law_statement pm_law_statement an_law_statement cd_law_statement ct_law_statement), sl_law_statement⟩)
    (k1_law_statement : PySem.W.codeIn K cd_law_statement "_law_statement" = true)
    (k2_law_statement : PySem.W.keepIn K (.ref a_law_statement) = true)
    (n1_law_block : PySem.W.nsIn K mainGlobals "_law_block" = some (some (.ref a_law_block)))
    (l_law_block : K.lookup a_law_block = some ⟨oc_law_block, od_law_block, .func (PySem.W.fnOf "_law_block" "_law_block" (defArgs (top 51)) (defBody (top 51)) (defScope (top 51)) .none kV_law_block dc_law_block pm_law_block an_law_block cd_law_block ct_law_block), sl_law_block⟩)
    (k1_law_block : PySem.W.codeIn K cd_law_block "_law_block" = true)
    (k2_law_block : PySem.W.keepIn K (.ref a_law_block) = true)
    (l_Program___init__ : K.lookup a_Program___init__ = some ⟨oc_Program___init__, od_Program___init__, .func (PySem.W.fnOf "__init__" "Program.__init__" (defArgs (inClass (top 35) 0)) (defBody (inClass (top 35) 0)) (defScope (inClass (top 35) 0)) .none kV_Program___init__ dc_Program___init__ pm_Program___init__ an_Program___init__ cd_Program___init__ ct_Program___init__), sl_Program___init__⟩)
    (k1_Program___init__ : PySem.W.codeIn K cd_Program___init__ "Program.__init__" = true)
    (k2_Program___init__ : PySem.W.keepIn K (.ref a_Program___init__) = true)
    (l_Program_classes : K.lookup a_Program_classes = some ⟨oc_Program_classes, od_Program_classes, .func (PySem.W.fnOf "classes" "Program.classes" (defArgs (inClass (top 35) 1)) (defBody (inClass (top 35) 1)) (defScope (inClass (top 35) 1)) .none kV_Program_classes dc_Program_classes pm_Program_classes an_Program_classes cd_Program_classes ct_Program_classes), sl_Program_classes⟩)
    (k1_Program_classes : PySem.W.codeIn K cd_Program_classes "Program.classes" = true)
    (k2_Program_classes : PySem.W.keepIn K (.ref a_Program_classes) = true)
    (n1_law : PySem.W.nsIn K mainGlobals "law" = some (some (.ref a_law)))
    (l_law : K.lookup a_law = some ⟨oc_law, od_law, .func (PySem.W.fnOf "law" "law" (defArgs (top 52)) (defBody (top 52)) (defScope (top 52)) .none kV_law dc_law pm_law an_law cd_law ct_law), sl_law⟩)
    (k1_law : PySem.W.codeIn K cd_law "law" = true)
    (k2_law : PySem.W.keepIn K (.ref a_law) = true)
    (pg_Program_classes : PySem.W.specialIn K (.ref p_Program_classes) "__get__" = some (some (.builtin "property.__get__")))
    (pt_Program_classes : PySem.W.takesIn K (.ref p_Program_classes) = some true)
    (n_dict : PySem.W.nsIn K mainGlobals "dict" = some none)
    (n_enumerate : PySem.W.nsIn K mainGlobals "enumerate" = some none)
    (n_int : PySem.W.nsIn K mainGlobals "int" = some none)
    (n_isinstance : PySem.W.nsIn K mainGlobals "isinstance" = some none)
    (n_len : PySem.W.nsIn K mainGlobals "len" = some none)
    (n_list : PySem.W.nsIn K mainGlobals "list" = some none)
    (n_range : PySem.W.nsIn K mainGlobals "range" = some none)
    (n_sorted : PySem.W.nsIn K mainGlobals "sorted" = some none)
    (n_str : PySem.W.nsIn K mainGlobals "str" = some none)
    (n_tuple : PySem.W.nsIn K mainGlobals "tuple" = some none)
    (c_LETTERS : PySem.W.nsIn K mainGlobals "LETTERS" = some (some (.str "abcdefghijklmnopqrstuvwxyz" tk_LETTERS)))
    (c_MOST_STATEMENTS : PySem.W.nsIn K mainGlobals "MOST_STATEMENTS" = some (some (.int 12 tk_MOST_STATEMENTS)))
    (c_MOST_DEEP : PySem.W.nsIn K mainGlobals "MOST_DEEP" = some (some (.int 8 tk_MOST_DEEP)))
    (c_MOST_PARAMS : PySem.W.nsIn K mainGlobals "MOST_PARAMS" = some (some (.int 3 tk_MOST_PARAMS)))
    (c_MOST_THINGS : PySem.W.nsIn K mainGlobals "MOST_THINGS" = some (some (.int 3 tk_MOST_THINGS)))
    (c_MOST_CLASSES : PySem.W.nsIn K mainGlobals "MOST_CLASSES" = some (some (.int 8 tk_MOST_CLASSES)))
    (c_MOST_FIELDS : PySem.W.nsIn K mainGlobals "MOST_FIELDS" = some (some (.int 3 tk_MOST_FIELDS)))
    (c_MOST_WORDS : PySem.W.nsIn K mainGlobals "MOST_WORDS" = some (some (.int 4 tk_MOST_WORDS)))
    (c_MOST_METHODS : PySem.W.nsIn K mainGlobals "MOST_METHODS" = some (some (.int 5 tk_MOST_METHODS)))
    (cg_Place : PySem.W.plainGet K C_Place Str.empty = true)
    (ch_Place : PySem.W.hasDictIn K C_Place = true)
    (cp_Place : PySem.W.plainOver K C_Place = true)
    (cs_Place : PySem.W.findIn K (.ref C_Place) "__setattr__" = some (some (.builtin "object.__setattr__")))
    (na_Place_fields : PySem.W.findIn K (.ref C_Place) "fields" = some none)
    (na_Place_has_parent : PySem.W.findIn K (.ref C_Place) "has_parent" = some none)
    (na_Place_known : PySem.W.findIn K (.ref C_Place) "known" = some none)
    (na_Place_may_return : PySem.W.findIn K (.ref C_Place) "may_return" = some none)
    (cg_Program : PySem.W.plainGet K C_Program Str.empty = true)
    (ch_Program : PySem.W.hasDictIn K C_Program = true)
    (cp_Program : PySem.W.plainOver K C_Program = true)
    (cs_Program : PySem.W.findIn K (.ref C_Program) "__setattr__" = some (some (.builtin "object.__setattr__")))
    (na_Program_body : PySem.W.findIn K (.ref C_Program) "body" = some none)
    (na_Program_held : PySem.W.findIn K (.ref C_Program) "held" = some none)
    (mm_Place : PySem.W.makesIn K C_Place = true)
    (mf_Place : PySem.W.isFn K (.ref a_Place___init__) = true)
    (mk_Place : PySem.W.keepIn K (.ref C_Place) = true)
    (mm_Program : PySem.W.makesIn K C_Program = true)
    (mf_Program : PySem.W.isFn K (.ref a_Program___init__) = true)
    (mk_Program : PySem.W.keepIn K (.ref C_Program) = true)
    (mn_Place_has_class : PySem.W.isFn K (.ref a_Place_has_class) = true)
    (mn_Place_has_field : PySem.W.isFn K (.ref a_Place_has_field) = true)
    (mn_Place_within_function : PySem.W.isFn K (.ref a_Place_within_function) = true)
    (sup : PySem.W.nsIn K mainGlobals "super" = some none)
    (opq : PySem.W.nsIn K PySem.cStatics "thirdparty.any" = some none)
    (stop : (l.prog.main.scope.names.lookup ("super" : Str)).isSome = false)
    (sp : PySem.W.specialIn K (.builtin "object.__class__") "__get__" = some (some (.builtin "getset_descriptor.__get__")))
    (tk : PySem.W.takesIn K (.builtin "object.__class__") = some true)
    (in_BadProgram : PySem.W.findIn K (.ref C_BadProgram) "__init__" = some (some (.ref i_BadProgram)))
    (l_BadProgram : K.lookup i_BadProgram = some ⟨oc_BadProgram, od_BadProgram, .func (PySem.W.fnX "__init__" "BadProgram.__init__" (defArgs (inClass (top 32) 0)) (defBody (inClass (top 32) 0)) (defScope (inClass (top 32) 0)) [("__class__", cc_BadProgram)] .none kV_BadProgram dc_BadProgram pm_BadProgram an_BadProgram (.ref cda_BadProgram) ct_BadProgram), sl_BadProgram⟩)
    (k1_BadProgram : PySem.W.codeIn K (.ref cda_BadProgram) "BadProgram.__init__" = true)
    (l2_BadProgram : K.lookup cda_BadProgram = some ⟨ccl_BadProgram, cdd_BadProgram, .fields vs_BadProgram, ccs_BadProgram⟩)
    (hv_BadProgram : vs_BadProgram[2]? = some (.str file_BadProgram tf_BadProgram))
    (hf_BadProgram : ((l.prog.main.file : Str) == file_BadProgram) = true)
    (l3_BadProgram : K.lookup cc_BadProgram = some ⟨cll_BadProgram, cld_BadProgram, .cell (some (.ref C_BadProgram)), csl_BadProgram⟩)
    (ow_BadProgram : PySem.W.mroIn K C_BadProgram (.ref C_BadProgram) = some true)
    (va_BadProgram : PySem.W.subIn K (.ref C_BadProgram) (.type "ValueError") = some true)
    (ini_BadProgram : PySem.W.ks_superIn K C_BadProgram C_BadProgram "__init__" = some (some (.builtin "ValueError.__init__")))
    (lc_BadProgram : K.lookup C_BadProgram = some (excClassObj nm_BadProgram qn_BadProgram C_BadProgram N_BadProgram bs_BadProgram bm_BadProgram true sn_BadProgram sub_BadProgram ab_BadProgram col_BadProgram dd_BadProgram k0_BadProgram k1o_BadProgram k2o_BadProgram k3_BadProgram k5_BadProgram "ValueError.__new__"))
    (bm_BadProgram : PySem.HandSPX.refsVE bm_BadProgram = true)
    (sa_BadProgram : PySem.W.findIn K (.ref C_BadProgram) "__setattr__" = some (some (.builtin "object.__setattr__")))
    (ex_BadProgram : PySem.W.subIn K (.ref C_BadProgram) (.type "BaseException") = some true)
    (tc_BadProgram : PySem.W.typeIn K (.ref C_BadProgram) = some (.type "type"))
    (kc_BadProgram : PySem.W.keepIn K (.ref C_BadProgram) = true)
    (ti_BadProgram : PySem.W.typeIn K (.ref i_BadProgram) = some (.type "function"))
    (no_BadProgram : PySem.W.findIn K (.ref C_BadProgram) "part" = some none)
    (hd_BadProgram : PySem.W.hasDictIn K C_BadProgram = true)
    (ga_BadProgram : PySem.W.findIn K (.ref C_BadProgram) "__getattribute__" = some (some (.builtin "BaseException.__getattribute__")))
    (gt_BadProgram : PySem.W.findIn K (.ref C_BadProgram) "__getattr__" = some none)
    (ca_BadProgram : PySem.W.findIn K (.ref C_BadProgram) "__class__" = some (some (.builtin "object.__class__")))
    (ob_BadProgram : PySem.W.mroIn K C_BadProgram (.type "object") = some true)
    (sb_BadProgram_BadProgram : PySem.W.subIn K (.ref C_BadProgram) (.ref C_BadProgram) = some true)
    (eq_BadProgram_BadProgram : C_BadProgram = C_BadProgram → true = true) :
    ∃ fd : FuncData, (∀ (s : Shared) (v : Value), BindsTo s fd ⟨[v], []⟩ [("_law_script", v)]) ∧ ∀ base : Heap, K.In base → base.Ns mainGlobals mg → FnOk l.prog w K mg base (L2.CX l.prog w) 88 fa fd ["_law_script"] (spLaw 63 K) := by
  have e := (PySem.W.mg_of X G n1_law).symm.trans hfa
  cases e
  have T : Tx l.prog K mg ⟨a_is_name, (PySem.W.fnOf "is_name" "is_name" (defArgs (top 6)) (defBody (top 6)) (defScope (top 6)) .none kV_is_name dc_is_name pm_is_name an_is_name cd_is_name ct_is_name), a_are_names, (PySem.W.fnOf "are_names" "are_names" (defArgs (top 7)) (defBody (top 7)) (defScope (top 7)) .none kV_are_names dc_are_names pm_are_names an_are_names cd_are_names ct_are_names), a_head, (PySem.W.fnOf "head" "head" (defArgs (top 8)) (defBody (top 8)) (defScope (top 8)) .none kV_head dc_head pm_head an_head cd_head ct_head), a_Place_has_field, (PySem.W.fnOf "has_field" "Place.has_field" (defArgs (inClass (top 9) 2)) (defBody (inClass (top 9) 2)) (defScope (inClass (top 9) 2)) .none kV_Place_has_field dc_Place_has_field pm_Place_has_field an_Place_has_field cd_Place_has_field ct_Place_has_field), a_Place_has_class, (PySem.W.fnOf "has_class" "Place.has_class" (defArgs (inClass (top 9) 3)) (defBody (inClass (top 9) 3)) (defScope (inClass (top 9) 3)) .none kV_Place_has_class dc_Place_has_class pm_Place_has_class an_Place_has_class cd_Place_has_class ct_Place_has_class), a_Place___init__, (PySem.W.fnOf "__init__" "Place.__init__" (defArgs (inClass (top 9) 0)) (defBody (inClass (top 9) 0)) (defScope (inClass (top 9) 0)) .none kV_Place___init__ dc_Place___init__ pm_Place___init__ an_Place___init__ cd_Place___init__ ct_Place___init__), a_Place_within_function, (PySem.W.fnOf "within_function" "Place.within_function" (defArgs (inClass (top 9) 1)) (defBody (inClass (top 9) 1)) (defScope (inClass (top 9) 1)) .none kV_Place_within_function dc_Place_within_function pm_Place_within_function an_Place_within_function cd_Place_within_function ct_Place_within_function), a_is_simple, (PySem.W.fnOf "is_simple" "is_simple" (defArgs (top 10)) (defBody (top 10)) (defScope (top 10)) .none kV_is_simple dc_is_simple pm_is_simple an_is_simple cd_is_simple ct_is_simple), a_are_things, (PySem.W.fnOf "are_things" "are_things" (defArgs (top 11)) (defBody (top 11)) (defScope (top 11)) .none kV_are_things dc_are_things pm_are_things an_are_things cd_are_things ct_are_things), a_is_right, (PySem.W.fnOf "is_right" "is_right" (defArgs (top 12)) (defBody (top 12)) (defScope (top 12)) .none kV_is_right dc_is_right pm_is_right an_is_right cd_is_right ct_is_right), a_is_test, (PySem.W.fnOf "is_test" "is_test" (defArgs (top 13)) (defBody (top 13)) (defScope (top 13)) (.ref T_is_test) kV_is_test dc_is_test pm_is_test an_is_test cd_is_test ct_is_test), a_is_short, (PySem.W.fnOf "is_short" "is_short" (defArgs (top 14)) (defBody (top 14)) (defScope (top 14)) .none kV_is_short dc_is_short pm_is_short an_is_short cd_is_short ct_is_short), a_is_statement, (PySem.W.fnOf "is_statement" "is_statement" (defArgs (top 15)) (defBody (top 15)) (defScope (top 15)) .none kV_is_statement dc_is_statement pm_is_statement an_is_statement cd_is_statement ct_is_statement), a_is_block, (PySem.W.fnOf "is_block" "is_block" (defArgs (top 16)) (defBody (top 16)) (defScope (top 16)) .none kV_is_block dc_is_block pm_is_block an_is_block cd_is_block ct_is_block), a_are_fields, (PySem.W.fnOf "are_fields" "are_fields" (defArgs (top 22)) (defBody (top 22)) (defScope (top 22)) .none kV_are_fields dc_are_fields pm_are_fields an_are_fields cd_are_fields ct_are_fields), a_are_methods, (PySem.W.fnOf "are_methods" "are_methods" (defArgs (top 23)) (defBody (top 23)) (defScope (top 23)) .none kV_are_methods dc_are_methods pm_are_methods an_are_methods cd_are_methods ct_are_methods), a_is_outline, (PySem.W.fnOf "is_outline" "is_outline" (defArgs (top 24)) (defBody (top 24)) (defScope (top 24)) .none kV_is_outline dc_is_outline pm_is_outline an_is_outline cd_is_outline ct_is_outline), a_parents_end, (PySem.W.fnOf "parents_end" "parents_end" (defArgs (top 25)) (defBody (top 25)) (defScope (top 25)) .none kV_parents_end dc_parents_end pm_parents_end an_parents_end cd_parents_end ct_parents_end), a_are_outlines, (PySem.W.fnOf "are_outlines" "are_outlines" (defArgs (top 26)) (defBody (top 26)) (defScope (top 26)) .none kV_are_outlines dc_are_outlines pm_are_outlines an_are_outlines cd_are_outlines ct_are_outlines), a_bad_method, (PySem.W.fnOf "bad_method" "bad_method" (defArgs (top 27)) (defBody (top 27)) (defScope (top 27)) .none kV_bad_method dc_bad_method pm_bad_method an_bad_method cd_bad_method ct_bad_method), a_copied, (PySem.W.fnOf "copied" "copied" (defArgs (top 28)) (defBody (top 28)) (defScope (top 28)) .none kV_copied dc_copied pm_copied an_copied cd_copied ct_copied), a_copied_classes, (PySem.W.fnOf "copied_classes" "copied_classes" (defArgs (top 29)) (defBody (top 29)) (defScope (top 29)) .none kV_copied_classes dc_copied_classes pm_copied_classes an_copied_classes cd_copied_classes ct_copied_classes), a_bad_part, (PySem.W.fnOf "bad_part" "bad_part" (defArgs (top 34)) (defBody (top 34)) (defScope (top 34)) .none kV_bad_part dc_bad_part pm_bad_part an_bad_part cd_bad_part ct_bad_part), a_law_mix, (PySem.W.fnOf "_law_mix" "_law_mix" (defArgs (top 37)) (defBody (top 37)) (defScope (top 37)) .none kV_law_mix dc_law_mix pm_law_mix an_law_mix cd_law_mix ct_law_mix), a_law_start, (PySem.W.fnOf "_law_start" "_law_start" (defArgs (top 38)) (defBody (top 38)) (defScope (top 38)) .none kV_law_start dc_law_start pm_law_start an_law_start cd_law_start ct_law_start), a_law_draw, (PySem.W.fnOf "_law_draw" "_law_draw" (defArgs (top 39)) (defBody (top 39)) (defScope (top 39)) .none kV_law_draw dc_law_draw pm_law_draw an_law_draw cd_law_draw ct_law_draw), a_law_tools, (PySem.W.fnOf "_law_tools" "_law_tools" (defArgs (top 40)) (defBody (top 40)) (defScope (top 40)) .none kV_law_tools dc_law_tools pm_law_tools an_law_tools cd_law_tools ct_law_tools), a_law_hit, (PySem.W.fnOf "_law_hit" "_law_hit" (defArgs (top 41)) (defBody (top 41)) (defScope (top 41)) .none kV_law_hit dc_law_hit pm_law_hit an_law_hit cd_law_hit ct_law_hit), a_law_part, (PySem.W.fnOf "_law_part" "_law_part" (defArgs (top 42)) (defBody (top 42)) (defScope (top 42)) .none kV_law_part dc_law_part pm_law_part an_law_part cd_law_part ct_law_part), a_law_row, (PySem.W.fnOf "_law_row" "_law_row" (defArgs (top 43)) (defBody (top 43)) (defScope (top 43)) .none kV_law_row dc_law_row pm_law_row an_law_row cd_law_row ct_law_row), a_law_name, (PySem.W.fnOf "_law_name" "_law_name" (defArgs (top 44)) (defBody (top 44)) (defScope (top 44)) .none kV_law_name dc_law_name pm_law_name an_law_name cd_law_name ct_law_name), a_law_params, (PySem.W.fnOf "_law_params" "_law_params" (defArgs (top 45)) (defBody (top 45)) (defScope (top 45)) .none kV_law_params dc_law_params pm_law_params an_law_params cd_law_params ct_law_params), a_law_things, (PySem.W.fnOf "_law_things" "_law_things" (defArgs (top 46)) (defBody (top 46)) (defScope (top 46)) .none kV_law_things dc_law_things pm_law_things an_law_things cd_law_things ct_law_things), a_law_simple, (PySem.W.fnOf "_law_simple" "_law_simple" (defArgs (top 47)) (defBody (top 47)) (defScope (top 47)) .none kV_law_simple dc_law_simple pm_law_simple an_law_simple cd_law_simple ct_law_simple), a_law_right, (PySem.W.fnOf "_law_right" "_law_right" (defArgs (top 48)) (defBody (top 48)) (defScope (top 48)) .none kV_law_right dc_law_right pm_law_right an_law_right cd_law_right ct_law_right), a_law_test, (PySem.W.fnOf "_law_test" "_law_test" (defArgs (top 49)) (defBody (top 49)) (defScope (top 49)) .none kV_law_test dc_law_test pm_law_test an_law_test cd_law_test ct_law_test), a_law_statement, (PySem.W.fnOf "_law_statement" "_law_statement" (defArgs (top 50)) (defBody (top 50)) (defScope (top 50)) .none kV_law_statement dc_law_statement pm_law_statement an_law_statement cd_law_statement ct_law_statement), a_law_block, (PySem.W.fnOf "_law_block" "_law_block" (defArgs (top 51)) (defBody (top 51)) (defScope (top 51)) .none kV_law_block dc_law_block pm_law_block an_law_block cd_law_block ct_law_block), a_Program___init__, (PySem.W.fnOf "__init__" "Program.__init__" (defArgs (inClass (top 35) 0)) (defBody (inClass (top 35) 0)) (defScope (inClass (top 35) 0)) .none kV_Program___init__ dc_Program___init__ pm_Program___init__ an_Program___init__ cd_Program___init__ ct_Program___init__), a_Program_classes, (PySem.W.fnOf "classes" "Program.classes" (defArgs (inClass (top 35) 1)) (defBody (inClass (top 35) 1)) (defScope (inClass (top 35) 1)) .none kV_Program_classes dc_Program_classes pm_Program_classes an_Program_classes cd_Program_classes ct_Program_classes), fa, (PySem.W.fnOf "law" "law" (defArgs (top 52)) (defBody (top 52)) (defScope (top 52)) .none kV_law dc_law pm_law an_law cd_law ct_law), p_Program_classes, C_Place, C_StandError, C_BadProgram, C_Program, i_BadProgram, (PySem.W.fnX "__init__" "BadProgram.__init__" (defArgs (inClass (top 32) 0)) (defBody (inClass (top 32) 0)) (defScope (inClass (top 32) 0)) [("__class__", cc_BadProgram)] .none kV_BadProgram dc_BadProgram pm_BadProgram an_BadProgram (.ref cda_BadProgram) ct_BadProgram)⟩ := {
    f_is_name := fun_mk l_is_name k1_is_name k2_is_name
    b_is_name := (fun_mk (st := (top 6)) l_is_name k1_is_name k2_is_name).binds (ps := ["thing"]) fun _ _ _ _ _ _ us hl => match us, hl with | [_], _ => rfl
    g_is_name := PySem.W.mg_of X G n1_is_name
    f_are_names := fun_mk l_are_names k1_are_names k2_are_names
    b_are_names := (fun_mk (st := (top 7)) l_are_names k1_are_names k2_are_names).binds (ps := ["thing", "most"]) fun _ _ _ _ _ _ us hl => match us, hl with | [_, _], _ => rfl
    g_are_names := PySem.W.mg_of X G n1_are_names
    f_head := fun_mk l_head k1_head k2_head
    b_head := (fun_mk (st := (top 8)) l_head k1_head k2_head).binds (ps := ["thing"]) fun _ _ _ _ _ _ us hl => match us, hl with | [_], _ => rfl
    g_head := PySem.W.mg_of X G n1_head
    f_Place_has_field := fun_mk l_Place_has_field k1_Place_has_field k2_Place_has_field
    b_Place_has_field := (fun_mk (st := (inClass (top 9) 2)) l_Place_has_field k1_Place_has_field k2_Place_has_field).binds (ps := ["self", "name"]) fun _ _ _ _ _ _ us hl => match us, hl with | [_, _], _ => rfl
    f_Place_has_class := fun_mk l_Place_has_class k1_Place_has_class k2_Place_has_class
    b_Place_has_class := (fun_mk (st := (inClass (top 9) 3)) l_Place_has_class k1_Place_has_class k2_Place_has_class).binds (ps := ["self", "name"]) fun _ _ _ _ _ _ us hl => match us, hl with | [_, _], _ => rfl
    f_Place___init__ := fun_mk l_Place___init__ k1_Place___init__ k2_Place___init__
    b_Place___init__ := (fun_mk (st := (inClass (top 9) 0)) l_Place___init__ k1_Place___init__ k2_Place___init__).binds (ps := ["self", "fields", "has_parent", "classes", "may_return"]) fun _ _ _ _ _ _ us hl => match us, hl with | [_, _, _, _, _], _ => rfl
    f_Place_within_function := fun_mk l_Place_within_function k1_Place_within_function k2_Place_within_function
    b_Place_within_function := (fun_mk (st := (inClass (top 9) 1)) l_Place_within_function k1_Place_within_function k2_Place_within_function).binds (ps := ["self"]) fun _ _ _ _ _ _ us hl => match us, hl with | [_], _ => rfl
    f_is_simple := fun_mk l_is_simple k1_is_simple k2_is_simple
    b_is_simple := (fun_mk (st := (top 10)) l_is_simple k1_is_simple k2_is_simple).binds (ps := ["thing", "place", "depth"]) fun _ _ _ _ _ _ us hl => match us, hl with | [_, _, _], _ => rfl
    g_is_simple := PySem.W.mg_of X G n1_is_simple
    f_are_things := fun_mk l_are_things k1_are_things k2_are_things
    b_are_things := (fun_mk (st := (top 11)) l_are_things k1_are_things k2_are_things).binds (ps := ["thing", "place", "depth"]) fun _ _ _ _ _ _ us hl => match us, hl with | [_, _, _], _ => rfl
    g_are_things := PySem.W.mg_of X G n1_are_things
    f_is_right := fun_mk l_is_right k1_is_right k2_is_right
    b_is_right := (fun_mk (st := (top 12)) l_is_right k1_is_right k2_is_right).binds (ps := ["thing", "place", "depth"]) fun _ _ _ _ _ _ us hl => match us, hl with | [_, _, _], _ => rfl
    g_is_right := PySem.W.mg_of X G n1_is_right
    f_is_test := ⟨⟨_, _, _, _, _, _, _, _, _, _, rfl, l_is_test, k1_is_test, .inr ⟨by simp, _, _, _, _, rfl, lT_is_test, oT_is_test, vT_is_test⟩, .inl rfl⟩, k2_is_test⟩
    b_is_test_3 := FunD.binds1 (ps := ["thing", "place", "depth", "levels"]) (show FunD K "is_test" "is_test" (defArgs (top 13)) (defBody (top 13)) (defScope (top 13)) [(L2.V.int 3)] [] a_is_test (PySem.W.fnOf "is_test" "is_test" (defArgs (top 13)) (defBody (top 13)) (defScope (top 13)) (.ref T_is_test) kV_is_test dc_is_test pm_is_test an_is_test cd_is_test ct_is_test) from ⟨⟨_, _, _, _, _, _, _, _, _, _, rfl, l_is_test, k1_is_test, .inr ⟨by simp, _, _, _, _, rfl, lT_is_test, oT_is_test, vT_is_test⟩, .inl rfl⟩, k2_is_test⟩) 3 0 (by simp) rfl fun T kV doc pm an cdv ct us its hu hi => match us, its, hu, hi with | [_, _, _], [_], _, _ => ⟨_, rfl, rfl⟩
    b_is_test_4 := FunD.binds1 (ps := ["thing", "place", "depth", "levels"]) (show FunD K "is_test" "is_test" (defArgs (top 13)) (defBody (top 13)) (defScope (top 13)) [(L2.V.int 3)] [] a_is_test (PySem.W.fnOf "is_test" "is_test" (defArgs (top 13)) (defBody (top 13)) (defScope (top 13)) (.ref T_is_test) kV_is_test dc_is_test pm_is_test an_is_test cd_is_test ct_is_test) from ⟨⟨_, _, _, _, _, _, _, _, _, _, rfl, l_is_test, k1_is_test, .inr ⟨by simp, _, _, _, _, rfl, lT_is_test, oT_is_test, vT_is_test⟩, .inl rfl⟩, k2_is_test⟩) 4 1 (by simp) rfl fun T kV doc pm an cdv ct us its hu hi => match us, its, hu, hi with | [_, _, _, _], [_], _, _ => ⟨_, rfl, rfl⟩
    g_is_test := PySem.W.mg_of X G n1_is_test
    f_is_short := fun_mk l_is_short k1_is_short k2_is_short
    b_is_short := (fun_mk (st := (top 14)) l_is_short k1_is_short k2_is_short).binds (ps := ["thing", "place", "depth"]) fun _ _ _ _ _ _ us hl => match us, hl with | [_, _, _], _ => rfl
    g_is_short := PySem.W.mg_of X G n1_is_short
    f_is_statement := fun_mk l_is_statement k1_is_statement k2_is_statement
    b_is_statement := (fun_mk (st := (top 15)) l_is_statement k1_is_statement k2_is_statement).binds (ps := ["thing", "place", "depth"]) fun _ _ _ _ _ _ us hl => match us, hl with | [_, _, _], _ => rfl
    g_is_statement := PySem.W.mg_of X G n1_is_statement
    f_is_block := fun_mk l_is_block k1_is_block k2_is_block
    b_is_block := (fun_mk (st := (top 16)) l_is_block k1_is_block k2_is_block).binds (ps := ["thing", "place", "depth"]) fun _ _ _ _ _ _ us hl => match us, hl with | [_, _, _], _ => rfl
    g_is_block := PySem.W.mg_of X G n1_is_block
    f_are_fields := fun_mk l_are_fields k1_are_fields k2_are_fields
    b_are_fields := (fun_mk (st := (top 22)) l_are_fields k1_are_fields k2_are_fields).binds (ps := ["thing"]) fun _ _ _ _ _ _ us hl => match us, hl with | [_], _ => rfl
    g_are_fields := PySem.W.mg_of X G n1_are_fields
    f_are_methods := fun_mk l_are_methods k1_are_methods k2_are_methods
    b_are_methods := (fun_mk (st := (top 23)) l_are_methods k1_are_methods k2_are_methods).binds (ps := ["thing"]) fun _ _ _ _ _ _ us hl => match us, hl with | [_], _ => rfl
    g_are_methods := PySem.W.mg_of X G n1_are_methods
    f_is_outline := fun_mk l_is_outline k1_is_outline k2_is_outline
    b_is_outline := (fun_mk (st := (top 24)) l_is_outline k1_is_outline k2_is_outline).binds (ps := ["thing"]) fun _ _ _ _ _ _ us hl => match us, hl with | [_], _ => rfl
    g_is_outline := PySem.W.mg_of X G n1_is_outline
    f_parents_end := fun_mk l_parents_end k1_parents_end k2_parents_end
    b_parents_end := (fun_mk (st := (top 25)) l_parents_end k1_parents_end k2_parents_end).binds (ps := ["classes", "name"]) fun _ _ _ _ _ _ us hl => match us, hl with | [_, _], _ => rfl
    g_parents_end := PySem.W.mg_of X G n1_parents_end
    f_are_outlines := fun_mk l_are_outlines k1_are_outlines k2_are_outlines
    b_are_outlines := (fun_mk (st := (top 26)) l_are_outlines k1_are_outlines k2_are_outlines).binds (ps := ["thing"]) fun _ _ _ _ _ _ us hl => match us, hl with | [_], _ => rfl
    g_are_outlines := PySem.W.mg_of X G n1_are_outlines
    f_bad_method := fun_mk l_bad_method k1_bad_method k2_bad_method
    b_bad_method := (fun_mk (st := (top 27)) l_bad_method k1_bad_method k2_bad_method).binds (ps := ["cls", "classes"]) fun _ _ _ _ _ _ us hl => match us, hl with | [_, _], _ => rfl
    g_bad_method := PySem.W.mg_of X G n1_bad_method
    f_copied := fun_mk l_copied k1_copied k2_copied
    b_copied := (fun_mk (st := (top 28)) l_copied k1_copied k2_copied).binds (ps := ["cls"]) fun _ _ _ _ _ _ us hl => match us, hl with | [_], _ => rfl
    g_copied := PySem.W.mg_of X G n1_copied
    f_copied_classes := fun_mk l_copied_classes k1_copied_classes k2_copied_classes
    b_copied_classes := (fun_mk (st := (top 29)) l_copied_classes k1_copied_classes k2_copied_classes).binds (ps := ["classes"]) fun _ _ _ _ _ _ us hl => match us, hl with | [_], _ => rfl
    g_copied_classes := PySem.W.mg_of X G n1_copied_classes
    f_bad_part := fun_mk l_bad_part k1_bad_part k2_bad_part
    b_bad_part := (fun_mk (st := (top 34)) l_bad_part k1_bad_part k2_bad_part).binds (ps := ["classes", "body"]) fun _ _ _ _ _ _ us hl => match us, hl with | [_, _], _ => rfl
    g_bad_part := PySem.W.mg_of X G n1_bad_part
    f_law_mix := fun_mk l_law_mix k1_law_mix k2_law_mix
    b_law_mix := (fun_mk (st := (top 37)) l_law_mix k1_law_mix k2_law_mix).binds (ps := ["_law_seed", "_law_cell"]) fun _ _ _ _ _ _ us hl => match us, hl with | [_, _], _ => rfl
    g_law_mix := PySem.W.mg_of X G n1_law_mix
    f_law_start := fun_mk l_law_start k1_law_start k2_law_start
    b_law_start := (fun_mk (st := (top 38)) l_law_start k1_law_start k2_law_start).binds (ps := ["_law_script"]) fun _ _ _ _ _ _ us hl => match us, hl with | [_], _ => rfl
    g_law_start := PySem.W.mg_of X G n1_law_start
    f_law_draw := fun_mk l_law_draw k1_law_draw k2_law_draw
    b_law_draw := (fun_mk (st := (top 39)) l_law_draw k1_law_draw k2_law_draw).binds (ps := ["_law_state", "_law_many"]) fun _ _ _ _ _ _ us hl => match us, hl with | [_, _], _ => rfl
    g_law_draw := PySem.W.mg_of X G n1_law_draw
    f_law_tools := fun_mk l_law_tools k1_law_tools k2_law_tools
    b_law_tools := (fun_mk (st := (top 40)) l_law_tools k1_law_tools k2_law_tools).binds (ps := ["_law_state"]) fun _ _ _ _ _ _ us hl => match us, hl with | [_], _ => rfl
    g_law_tools := PySem.W.mg_of X G n1_law_tools
    f_law_hit := fun_mk l_law_hit k1_law_hit k2_law_hit
    b_law_hit := (fun_mk (st := (top 41)) l_law_hit k1_law_hit k2_law_hit).binds (ps := ["_law_tools_here"]) fun _ _ _ _ _ _ us hl => match us, hl with | [_], _ => rfl
    g_law_hit := PySem.W.mg_of X G n1_law_hit
    f_law_part := fun_mk l_law_part k1_law_part k2_law_part
    b_law_part := (fun_mk (st := (top 42)) l_law_part k1_law_part k2_law_part).binds (ps := ["_law_tools_here", "_law_part_here"]) fun _ _ _ _ _ _ us hl => match us, hl with | [_, _], _ => rfl
    g_law_part := PySem.W.mg_of X G n1_law_part
    f_law_row := fun_mk l_law_row k1_law_row k2_law_row
    b_law_row := (fun_mk (st := (top 43)) l_law_row k1_law_row k2_law_row).binds (ps := ["_law_tools_here", "_law_row_here", "_law_many", "_law_odd"]) fun _ _ _ _ _ _ us hl => match us, hl with | [_, _, _, _], _ => rfl
    g_law_row := PySem.W.mg_of X G n1_law_row
    f_law_name := fun_mk l_law_name k1_law_name k2_law_name
    b_law_name := (fun_mk (st := (top 44)) l_law_name k1_law_name k2_law_name).binds (ps := ["_law_state"]) fun _ _ _ _ _ _ us hl => match us, hl with | [_], _ => rfl
    g_law_name := PySem.W.mg_of X G n1_law_name
    f_law_params := fun_mk l_law_params k1_law_params k2_law_params
    b_law_params := (fun_mk (st := (top 45)) l_law_params k1_law_params k2_law_params).binds (ps := ["_law_state", "_law_tools_here"]) fun _ _ _ _ _ _ us hl => match us, hl with | [_, _], _ => rfl
    g_law_params := PySem.W.mg_of X G n1_law_params
    f_law_things := fun_mk l_law_things k1_law_things k2_law_things
    b_law_things := (fun_mk (st := (top 46)) l_law_things k1_law_things k2_law_things).binds (ps := ["_law_state", "_law_tools_here", "_law_depth"]) fun _ _ _ _ _ _ us hl => match us, hl with | [_, _, _], _ => rfl
    g_law_things := PySem.W.mg_of X G n1_law_things
    f_law_simple := fun_mk l_law_simple k1_law_simple k2_law_simple
    b_law_simple := (fun_mk (st := (top 47)) l_law_simple k1_law_simple k2_law_simple).binds (ps := ["_law_state", "_law_tools_here", "_law_depth"]) fun _ _ _ _ _ _ us hl => match us, hl with | [_, _, _], _ => rfl
    g_law_simple := PySem.W.mg_of X G n1_law_simple
    f_law_right := fun_mk l_law_right k1_law_right k2_law_right
    b_law_right := (fun_mk (st := (top 48)) l_law_right k1_law_right k2_law_right).binds (ps := ["_law_state", "_law_tools_here", "_law_depth"]) fun _ _ _ _ _ _ us hl => match us, hl with | [_, _, _], _ => rfl
    g_law_right := PySem.W.mg_of X G n1_law_right
    f_law_test := fun_mk l_law_test k1_law_test k2_law_test
    b_law_test := (fun_mk (st := (top 49)) l_law_test k1_law_test k2_law_test).binds (ps := ["_law_state", "_law_tools_here", "_law_depth", "_law_levels"]) fun _ _ _ _ _ _ us hl => match us, hl with | [_, _, _, _], _ => rfl
    g_law_test := PySem.W.mg_of X G n1_law_test
    f_law_statement := fun_mk l_law_statement k1_law_statement k2_law_statement
    b_law_statement := (fun_mk (st := (top 50)) l_law_statement k1_law_statement k2_law_statement).binds (ps := ["_law_state", "_law_tools_here", "_law_depth"]) fun _ _ _ _ _ _ us hl => match us, hl with | [_, _, _], _ => rfl
    g_law_statement := PySem.W.mg_of X G n1_law_statement
    f_law_block := fun_mk l_law_block k1_law_block k2_law_block
    b_law_block := (fun_mk (st := (top 51)) l_law_block k1_law_block k2_law_block).binds (ps := ["_law_state", "_law_tools_here", "_law_depth"]) fun _ _ _ _ _ _ us hl => match us, hl with | [_, _, _], _ => rfl
    g_law_block := PySem.W.mg_of X G n1_law_block
    f_Program___init__ := fun_mk l_Program___init__ k1_Program___init__ k2_Program___init__
    b_Program___init__ := (fun_mk (st := (inClass (top 35) 0)) l_Program___init__ k1_Program___init__ k2_Program___init__).binds (ps := ["self", "classes", "body"]) fun _ _ _ _ _ _ us hl => match us, hl with | [_, _, _], _ => rfl
    f_Program_classes := fun_mk l_Program_classes k1_Program_classes k2_Program_classes
    b_Program_classes := (fun_mk (st := (inClass (top 35) 1)) l_Program_classes k1_Program_classes k2_Program_classes).binds (ps := ["self"]) fun _ _ _ _ _ _ us hl => match us, hl with | [_], _ => rfl
    f_law := fun_mk l_law k1_law k2_law
    b_law := (fun_mk (st := (top 52)) l_law k1_law k2_law).binds (ps := ["_law_script"]) fun _ _ _ _ _ _ us hl => match us, hl with | [_], _ => rfl
    g_law := PySem.W.mg_of X G n1_law
    cls_Place := ⟨cg_Place, ch_Place, cp_Place, cs_Place⟩
    na_Place_fields := na_Place_fields
    na_Place_has_parent := na_Place_has_parent
    na_Place_known := na_Place_known
    na_Place_may_return := na_Place_may_return
    cls_Program := ⟨cg_Program, ch_Program, cp_Program, cs_Program⟩
    na_Program_body := na_Program_body
    na_Program_held := na_Program_held
    mk_Place := ⟨mm_Place, ma_Place___init__, mf_Place, mk_Place⟩
    mk_Program := ⟨mm_Program, ma_Program___init__, mf_Program, mk_Program⟩
    me_Place_has_class := ⟨ma_Place_has_class, mn_Place_has_class, k2_Place_has_class⟩
    me_Place_has_field := ⟨ma_Place_has_field, mn_Place_has_field, k2_Place_has_field⟩
    me_Place_within_function := ⟨ma_Place_within_function, mn_Place_within_function, k2_Place_within_function⟩
    pr_Program_classes := ⟨pa_Program_classes, pg_Program_classes, pt_Program_classes, _, pr_Program_classes⟩
    n_dict := PySem.W.mg_none_of X G n_dict
    n_enumerate := PySem.W.mg_none_of X G n_enumerate
    n_int := PySem.W.mg_none_of X G n_int
    n_isinstance := PySem.W.mg_none_of X G n_isinstance
    n_len := PySem.W.mg_none_of X G n_len
    n_list := PySem.W.mg_none_of X G n_list
    n_range := PySem.W.mg_none_of X G n_range
    n_sorted := PySem.W.mg_none_of X G n_sorted
    n_str := PySem.W.mg_none_of X G n_str
    n_tuple := PySem.W.mg_none_of X G n_tuple
    c_LETTERS := ⟨_, PySem.W.mg_of X G c_LETTERS, _, rfl⟩
    c_MOST_STATEMENTS := ⟨_, PySem.W.mg_of X G c_MOST_STATEMENTS, _, rfl⟩
    c_MOST_DEEP := ⟨_, PySem.W.mg_of X G c_MOST_DEEP, _, rfl⟩
    c_MOST_PARAMS := ⟨_, PySem.W.mg_of X G c_MOST_PARAMS, _, rfl⟩
    c_MOST_THINGS := ⟨_, PySem.W.mg_of X G c_MOST_THINGS, _, rfl⟩
    c_MOST_CLASSES := ⟨_, PySem.W.mg_of X G c_MOST_CLASSES, _, rfl⟩
    c_MOST_FIELDS := ⟨_, PySem.W.mg_of X G c_MOST_FIELDS, _, rfl⟩
    c_MOST_WORDS := ⟨_, PySem.W.mg_of X G c_MOST_WORDS, _, rfl⟩
    c_MOST_METHODS := ⟨_, PySem.W.mg_of X G c_MOST_METHODS, _, rfl⟩
    g_Place := PySem.W.mg_of X G n1_Place
    g_StandError := PySem.W.mg_of X G n1_StandError
    g_BadProgram := PySem.W.mg_of X G n1_BadProgram
    g_Program := PySem.W.mg_of X G n1_Program
    su_BadProgram := sup_mk l_BadProgram k1_BadProgram l2_BadProgram hv_BadProgram hf_BadProgram l3_BadProgram stop (PySem.W.mg_none_of X G sup) opq ow_BadProgram va_BadProgram ini_BadProgram
    ox_BadProgram := oex_mk lc_BadProgram bm_BadProgram sa_BadProgram ex_BadProgram tc_BadProgram kc_BadProgram
    in_BadProgram := in_BadProgram
    ty_BadProgram := ti_BadProgram
    be_BadProgram := .all fun us hl => match us, hl with | [_, _], _ => rfl
    no_BadProgram := no_BadProgram
    xf_BadProgram := (ek_mk hd_BadProgram ga_BadProgram gt_BadProgram ex_BadProgram ca_BadProgram sp tk ob_BadProgram).2
    ek_BadProgram := (ek_mk hd_BadProgram ga_BadProgram gt_BadProgram ex_BadProgram ca_BadProgram sp tk ob_BadProgram).1
    ct_BadProgram_BadProgram := ct_mk ex_BadProgram hd_BadProgram tc_BadProgram sb_BadProgram_BadProgram
  }
  exact ⟨(PySem.W.fnOf "law" "law" (defArgs (top 52)) (defBody (top 52)) (defScope (top 52)) .none kV_law dc_law pm_law an_law cd_law ct_law), fun s v => .of_eq rfl, fun base _ _ => (w_law (base := base) T).imp (law_sp fun ns h => law_true ns h)⟩
end Mkk02
open PySem PySem.W PyProof.Rows
set_option maxRecDepth 100000 in
set_option maxHeartbeats 0 in
theorem PySem.Challenge.cw_standsfor_k02_expressions_anywhere_holds : PySem.Challenge.rw_standsfor_k02_expressions_anywhere.Holds := by
  w_on; o_law; k_head; (case hw => w_witness2)
  k_fill
  refine Mi.law_walk (l := PySem.Challenge.rw_standsfor_k02_expressions_anywhere) (k := 88) (x := "_law_script") rfl rfl ⟨rfl, by decide, by decide⟩ (fun w h Y => PySem.W.kIn_of Y) ?F
  case F =>
    intro w mg fa h KX G hmg
    refine' Mkk02.all_mk KX G hmg ?n1_Place ?n1_StandError ?n1_BadProgram ?n1_Program ?ma_Place_has_field ?ma_Place_has_class ?ma_Place___init__ ?ma_Place_within_function ?ma_Program___init__ ?pa_Program_classes ?pr_Program_classes ?n1_is_name ?l_is_name ?k1_is_name ?k2_is_name ?n1_are_names ?l_are_names ?k1_are_names ?k2_are_names ?n1_head ?l_head ?k1_head ?k2_head ?l_Place_has_field ?k1_Place_has_field ?k2_Place_has_field ?l_Place_has_class ?k1_Place_has_class ?k2_Place_has_class ?l_Place___init__ ?k1_Place___init__ ?k2_Place___init__ ?l_Place_within_function ?k1_Place_within_function ?k2_Place_within_function ?n1_is_simple ?l_is_simple ?k1_is_simple ?k2_is_simple ?n1_are_things ?l_are_things ?k1_are_things ?k2_are_things ?n1_is_right ?l_is_right ?k1_is_right ?k2_is_right ?n1_is_test ?l_is_test ?k1_is_test ?k2_is_test ?lT_is_test ?oT_is_test ?vT_is_test ?n1_is_short ?l_is_short ?k1_is_short ?k2_is_short ?n1_is_statement ?l_is_statement ?k1_is_statement ?k2_is_statement ?n1_is_block ?l_is_block ?k1_is_block ?k2_is_block ?n1_are_fields ?l_are_fields ?k1_are_fields ?k2_are_fields ?n1_are_methods ?l_are_methods ?k1_are_methods ?k2_are_methods ?n1_is_outline ?l_is_outline ?k1_is_outline ?k2_is_outline ?n1_parents_end ?l_parents_end ?k1_parents_end ?k2_parents_end ?n1_are_outlines ?l_are_outlines ?k1_are_outlines ?k2_are_outlines ?n1_bad_method ?l_bad_method ?k1_bad_method ?k2_bad_method ?n1_copied ?l_copied ?k1_copied ?k2_copied ?n1_copied_classes ?l_copied_classes ?k1_copied_classes ?k2_copied_classes ?n1_bad_part ?l_bad_part ?k1_bad_part ?k2_bad_part ?n1_law_mix ?l_law_mix ?k1_law_mix ?k2_law_mix ?n1_law_start ?l_law_start ?k1_law_start ?k2_law_start ?n1_law_draw ?l_law_draw ?k1_law_draw ?k2_law_draw ?n1_law_tools ?l_law_tools ?k1_law_tools ?k2_law_tools ?n1_law_hit ?l_law_hit ?k1_law_hit ?k2_law_hit ?n1_law_part ?l_law_part ?k1_law_part ?k2_law_part ?n1_law_row ?l_law_row ?k1_law_row ?k2_law_row ?n1_law_name ?l_law_name ?k1_law_name ?k2_law_name ?n1_law_params ?l_law_params ?k1_law_params ?k2_law_params ?n1_law_things ?l_law_things ?k1_law_things ?k2_law_things ?n1_law_simple ?l_law_simple ?k1_law_simple ?k2_law_simple ?n1_law_right ?l_law_right ?k1_law_right ?k2_law_right ?n1_law_test ?l_law_test ?k1_law_test ?k2_law_test ?n1_law_statement ?l_law_statement ?k1_law_statement ?k2_law_statement ?n1_law_block ?l_law_block ?k1_law_block ?k2_law_block ?l_Program___init__ ?k1_Program___init__ ?k2_Program___init__ ?l_Program_classes ?k1_Program_classes ?k2_Program_classes ?n1_law ?l_law ?k1_law ?k2_law ?pg_Program_classes ?pt_Program_classes ?n_dict ?n_enumerate ?n_int ?n_isinstance ?n_len ?n_list ?n_range ?n_sorted ?n_str ?n_tuple ?c_LETTERS ?c_MOST_STATEMENTS ?c_MOST_DEEP ?c_MOST_PARAMS ?c_MOST_THINGS ?c_MOST_CLASSES ?c_MOST_FIELDS ?c_MOST_WORDS ?c_MOST_METHODS ?cg_Place ?ch_Place ?cp_Place ?cs_Place ?na_Place_fields ?na_Place_has_parent ?na_Place_known ?na_Place_may_return ?cg_Program ?ch_Program ?cp_Program ?cs_Program ?na_Program_body ?na_Program_held ?mm_Place ?mf_Place ?mk_Place ?mm_Program ?mf_Program ?mk_Program ?mn_Place_has_class ?mn_Place_has_field ?mn_Place_within_function ?sup ?opq ?stop ?sp ?tk ?in_BadProgram ?l_BadProgram ?k1_BadProgram ?l2_BadProgram ?hv_BadProgram ?hf_BadProgram ?l3_BadProgram ?ow_BadProgram ?va_BadProgram ?ini_BadProgram ?lc_BadProgram ?bm_BadProgram ?sa_BadProgram ?ex_BadProgram ?tc_BadProgram ?kc_BadProgram ?ti_BadProgram ?no_BadProgram ?hd_BadProgram ?ga_BadProgram ?gt_BadProgram ?ca_BadProgram ?ob_BadProgram ?sb_BadProgram_BadProgram ?eq_BadProgram_BadProgram
    case n1_Place => k_is
    case n1_StandError => k_is
    case n1_BadProgram => k_is
    case n1_Program => k_is
    case ma_Place_has_field => k_is
    case ma_Place_has_class => k_is
    case ma_Place___init__ => k_is
    case ma_Place_within_function => k_is
    case ma_Program___init__ => k_is
    case pa_Program_classes => k_is
    case pr_Program_classes => k_is
    case n1_is_name => k_is
    case l_is_name => k_is
    case k1_is_name => k_is
    case k2_is_name => k_is
    case n1_are_names => k_is
    case l_are_names => k_is
    case k1_are_names => k_is
    case k2_are_names => k_is
    case n1_head => k_is
    case l_head => k_is
    case k1_head => k_is
    case k2_head => k_is
    case l_Place_has_field => k_is
    case k1_Place_has_field => k_is
    case k2_Place_has_field => k_is
    case l_Place_has_class => k_is
    case k1_Place_has_class => k_is
    case k2_Place_has_class => k_is
    case l_Place___init__ => k_is
    case k1_Place___init__ => k_is
    case k2_Place___init__ => k_is
    case l_Place_within_function => k_is
    case k1_Place_within_function => k_is
    case k2_Place_within_function => k_is
    case n1_is_simple => k_is
    case l_is_simple => k_is
    case k1_is_simple => k_is
    case k2_is_simple => k_is
    case n1_are_things => k_is
    case l_are_things => k_is
    case k1_are_things => k_is
    case k2_are_things => k_is
    case n1_is_right => k_is
    case l_is_right => k_is
    case k1_is_right => k_is
    case k2_is_right => k_is
    case n1_is_test => k_is
    case l_is_test => k_is
    case k1_is_test => k_is
    case k2_is_test => k_is
    case lT_is_test => k_is
    case oT_is_test => first | exact (rfl : _ = PySem.Data.seq (List.toArray [_]) _) | rfl
    case vT_is_test => exact (.cons ⟨_, rfl⟩ .nil)
    case n1_is_short => k_is
    case l_is_short => k_is
    case k1_is_short => k_is
    case k2_is_short => k_is
    case n1_is_statement => k_is
    case l_is_statement => k_is
    case k1_is_statement => k_is
    case k2_is_statement => k_is
    case n1_is_block => k_is
    case l_is_block => k_is
    case k1_is_block => k_is
    case k2_is_block => k_is
    case n1_are_fields => k_is
    case l_are_fields => k_is
    case k1_are_fields => k_is
    case k2_are_fields => k_is
    case n1_are_methods => k_is
    case l_are_methods => k_is
    case k1_are_methods => k_is
    case k2_are_methods => k_is
    case n1_is_outline => k_is
    case l_is_outline => k_is
    case k1_is_outline => k_is
    case k2_is_outline => k_is
    case n1_parents_end => k_is
    case l_parents_end => k_is
    case k1_parents_end => k_is
    case k2_parents_end => k_is
    case n1_are_outlines => k_is
    case l_are_outlines => k_is
    case k1_are_outlines => k_is
    case k2_are_outlines => k_is
    case n1_bad_method => k_is
    case l_bad_method => k_is
    case k1_bad_method => k_is
    case k2_bad_method => k_is
    case n1_copied => k_is
    case l_copied => k_is
    case k1_copied => k_is
    case k2_copied => k_is
    case n1_copied_classes => k_is
    case l_copied_classes => k_is
    case k1_copied_classes => k_is
    case k2_copied_classes => k_is
    case n1_bad_part => k_is
    case l_bad_part => k_is
    case k1_bad_part => k_is
    case k2_bad_part => k_is
    case n1_law_mix => k_is
    case l_law_mix => k_is
    case k1_law_mix => k_is
    case k2_law_mix => k_is
    case n1_law_start => k_is
    case l_law_start => k_is
    case k1_law_start => k_is
    case k2_law_start => k_is
    case n1_law_draw => k_is
    case l_law_draw => k_is
    case k1_law_draw => k_is
    case k2_law_draw => k_is
    case n1_law_tools => k_is
    case l_law_tools => k_is
    case k1_law_tools => k_is
    case k2_law_tools => k_is
    case n1_law_hit => k_is
    case l_law_hit => k_is
    case k1_law_hit => k_is
    case k2_law_hit => k_is
    case n1_law_part => k_is
    case l_law_part => k_is
    case k1_law_part => k_is
    case k2_law_part => k_is
    case n1_law_row => k_is
    case l_law_row => k_is
    case k1_law_row => k_is
    case k2_law_row => k_is
    case n1_law_name => k_is
    case l_law_name => k_is
    case k1_law_name => k_is
    case k2_law_name => k_is
    case n1_law_params => k_is
    case l_law_params => k_is
    case k1_law_params => k_is
    case k2_law_params => k_is
    case n1_law_things => k_is
    case l_law_things => k_is
    case k1_law_things => k_is
    case k2_law_things => k_is
    case n1_law_simple => k_is
    case l_law_simple => k_is
    case k1_law_simple => k_is
    case k2_law_simple => k_is
    case n1_law_right => k_is
    case l_law_right => k_is
    case k1_law_right => k_is
    case k2_law_right => k_is
    case n1_law_test => k_is
    case l_law_test => k_is
    case k1_law_test => k_is
    case k2_law_test => k_is
    case n1_law_statement => k_is
    case l_law_statement => k_is
    case k1_law_statement => k_is
    case k2_law_statement => k_is
    case n1_law_block => k_is
    case l_law_block => k_is
    case k1_law_block => k_is
    case k2_law_block => k_is
    case l_Program___init__ => k_is
    case k1_Program___init__ => k_is
    case k2_Program___init__ => k_is
    case l_Program_classes => k_is
    case k1_Program_classes => k_is
    case k2_Program_classes => k_is
    case n1_law => k_is
    case l_law => k_is
    case k1_law => k_is
    case k2_law => k_is
    case pg_Program_classes => k_is
    case pt_Program_classes => k_is
    case n_dict => k_is
    case n_enumerate => k_is
    case n_int => k_is
    case n_isinstance => k_is
    case n_len => k_is
    case n_list => k_is
    case n_range => k_is
    case n_sorted => k_is
    case n_str => k_is
    case n_tuple => k_is
    case c_LETTERS => k_is
    case c_MOST_STATEMENTS => k_is
    case c_MOST_DEEP => k_is
    case c_MOST_PARAMS => k_is
    case c_MOST_THINGS => k_is
    case c_MOST_CLASSES => k_is
    case c_MOST_FIELDS => k_is
    case c_MOST_WORDS => k_is
    case c_MOST_METHODS => k_is
    case cg_Place => k_is
    case ch_Place => k_is
    case cp_Place => k_is
    case cs_Place => k_is
    case na_Place_fields => k_is
    case na_Place_has_parent => k_is
    case na_Place_known => k_is
    case na_Place_may_return => k_is
    case cg_Program => k_is
    case ch_Program => k_is
    case cp_Program => k_is
    case cs_Program => k_is
    case na_Program_body => k_is
    case na_Program_held => k_is
    case mm_Place => k_is
    case mf_Place => k_is
    case mk_Place => k_is
    case mm_Program => k_is
    case mf_Program => k_is
    case mk_Program => k_is
    case mn_Place_has_class => k_is
    case mn_Place_has_field => k_is
    case mn_Place_within_function => k_is
    case sup => k_is
    case opq => k_is
    case stop => first | rfl | decide +kernel
    case sp => k_is
    case tk => k_is
    case in_BadProgram => k_is
    case l_BadProgram => k_is
    case k1_BadProgram => k_is
    case l2_BadProgram => k_is
    case hv_BadProgram => rfl
    case hf_BadProgram => first | rfl | decide +kernel
    case l3_BadProgram => k_is
    case ow_BadProgram => k_is
    case va_BadProgram => k_is
    case ini_BadProgram => ks_is
    case lc_BadProgram => k_is
    case bm_BadProgram => first | rfl | decide +kernel
    case sa_BadProgram => k_is
    case ex_BadProgram => k_is
    case tc_BadProgram => k_is
    case kc_BadProgram => k_is
    case ti_BadProgram => k_is
    case no_BadProgram => k_is
    case hd_BadProgram => k_is
    case ga_BadProgram => k_is
    case gt_BadProgram => k_is
    case ca_BadProgram => k_is
    case ob_BadProgram => k_is
    case sb_BadProgram_BadProgram => k_is
    case eq_BadProgram_BadProgram => first | exact fun _ => rfl | exact fun h => absurd h (by decide)
