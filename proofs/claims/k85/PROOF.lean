import PyProof.Rows.All
import Wide.All
import OpenK.AllK
import Wide.FinOn
import HandS.ForMost
import HandS.ForExc
import HandS.CallSlots
import HandS.TupAny
import HandS.Walk
import HandS.IsInst
import HandS.TupMul
import KE.KEqNest
import PyProof.NeKinds
import HandS.RaiseMore
import HandS.FStr
import KE.KSuper
import KE.KExcSuper
import HandS.Nested
import HandS.ExcInit
import HandS.ExcField
import KE.KExcIs
import HandS.ExcIs
import KE.KIntText
import KE.KxText
import PyProof.Rows.ReprOcc
import PyProof.Rows.StrFin3
import PySem.Challenge.RW_standsfor_k85_texts_of_events
import KE.RegKSuper
set_option Elab.async false
set_option linter.all false
set_option maxRecDepth 100000
set_option maxHeartbeats 4000000
set_option autoImplicit false
namespace Mi
open PySem PySem.Spec PyProof.Rows L2

/-! ### abstract values, objects, stores -/
inductive D where
  | non | bl (b : Bool) | int (i : Int) | str (x : Str) | tup (ds : List D) | frl (ds : List D) | ref (n : Nat)
structure Exn where
  cls : Str
  fs : List (Str × D)
inductive O where
  | lst (ds : List D)
  | dct (kvs : List (Key × D))
  | lck (kvs : List (Key × D))
  | ins (C : Str) (fs : List (Str × D))
abbrev So := List O
abbrev Sl := L2.St
abbrev Ro := List (Option D)
structure Gs where
  K : PySem.W.Frag
  cl : Str → Option Addr
  fx : List (Nat × V) := []
  xx : List (Value × Option Addr × Exn) := []

/-! ### relations -/
def FzL (K : PySem.W.Frag) (H : Hp) (a : Addr) (xs : List V) : Prop := (∃ o, H a = some (.frz o (.lst xs))) ∨ ∀ H', SqL K H' a xs
mutual
inductive RD (K : PySem.W.Frag) (β : List Addr) (H : Hp) : V → D → Prop
  | non : RD K β H .non .non
  | bl (b : Bool) : RD K β H (.bl b) (.bl b)
  | int (i : Int) : RD K β H (.int i) (.int i)
  | str (x : Str) : RD K β H (.str x) (.str x)
  | tup {a : Addr} {xs : List V} {ds : List D} : SqT K H a xs → RDs K β H xs ds → RD K β H (.ref a) (.tup ds)
  | frl {a : Addr} {xs : List V} {ds : List D} : FzL K H a xs → RDs K β H xs ds → RD K β H (.ref a) (.frl ds)
  | ref {n : Nat} {a : Addr} : β[n]? = some a → RD K β H (.ref a) (.ref n)
inductive RDs (K : PySem.W.Frag) (β : List Addr) (H : Hp) : List V → List D → Prop
  | nil : RDs K β H [] []
  | cons {x : V} {d : D} {xs : List V} {ds : List D} : RD K β H x d → RDs K β H xs ds → RDs K β H (x :: xs) (d :: ds)
end
def Imm : HO → Prop
  | .tup _ => True
  | .frz _ (.lst _) => True
  | .frz _ (.tup _) => True
  | .xd _ => True
  | _ => False
/-- what a value's sight leans on -/
structure Ew (β : List Addr) (H : Hp) (β' : List Addr) (H' : Hp) : Prop where
  pre : ∀ (n : Nat) (a : Addr), β[n]? = some a → β'[n]? = some a
  imm : ∀ (a : Addr) (o : HO), Imm o → H a = some o → H' a = some o
/-- .. and what is locked stays so -/
structure Ex (β : List Addr) (H : Hp) (β' : List Addr) (H' : Hp) : Prop extends Ew β H β' H' where
  lk : ∀ (a : Addr) (o : Obj) (u : HO), H a = some (.frz o u) → H' a = some (.frz o u)
instance {β : List Addr} {H : Hp} {β' : List Addr} {H' : Hp} : CoeOut (Ex β H β' H') (Ew β H β' H') := ⟨Ex.toEw⟩
theorem Ex.refl {β : List Addr} {H : Hp} : Ex β H β H := ⟨⟨fun _ _ h => h, fun _ _ _ h => h⟩, fun _ _ _ h => h⟩
theorem Ex.trans {β β1 β2 : List Addr} {H H1 H2 : Hp} (a : Ex β H β1 H1) (b : Ex β1 H1 β2 H2) : Ex β H β2 H2 := ⟨⟨fun n x h => b.pre n x (a.pre n x h), fun x o i h => b.imm x o i (a.imm x o i h)⟩, fun x o u h => b.lk x o u (a.lk x o u h)⟩
section
variable {K : PySem.W.Frag} {cl : Str → Option Addr} {β β' : List Addr} {H H' : Hp} {a p : Addr} {xs : List V}
theorem sqT_ex (e : Ew β H β' H') (h : SqT K H a xs) : SqT K H' a xs := by
  rcases h with (h | ⟨o, h⟩) | h
  · exact .inl (.inl (e.imm _ _ trivial h))
  · exact .inl (.inr ⟨o, e.imm _ _ trivial h⟩)
  · exact .inr h
theorem fzL_ex (e : Ew β H β' H') (h : FzL K H a xs) : FzL K H' a xs := by
  rcases h with ⟨o, h⟩ | h
  · exact .inl ⟨o, e.imm _ _ trivial h⟩
  · exact .inr h
theorem FzL.sq (h : FzL K H a xs) : SqL K H a xs := by
  rcases h with ⟨o, h⟩ | h
  · exact .inl (.inr ⟨o, h⟩)
  · exact h H
mutual
theorem RD.mono (e : Ew β H β' H') : ∀ {v : V} {d : D}, RD K β H v d → RD K β' H' v d
  | _, _, .non => .non
  | _, _, .bl b => .bl b
  | _, _, .int i => .int i
  | _, _, .str x => .str x
  | _, _, .tup h r => .tup (sqT_ex e h) (RDs.mono e r)
  | _, _, .frl h r => .frl (fzL_ex e h) (RDs.mono e r)
  | _, _, .ref h => .ref (e.pre _ _ h)
theorem RDs.mono (e : Ew β H β' H') : ∀ {vs : List V} {ds : List D}, RDs K β H vs ds → RDs K β' H' vs ds
  | _, _, .nil => .nil
  | _, _, .cons h r => .cons (RD.mono e h) (RDs.mono e r)
end
theorem RDs.length : ∀ {vs : List V} {ds : List D}, RDs K β H vs ds → vs.length = ds.length
  | _, _, .nil => rfl
  | _, _, .cons _ r => by simp [RDs.length r]
theorem RDs.get : ∀ {vs : List V} {ds : List D}, RDs K β H vs ds → ∀ {i : Nat} {d : D}, ds[i]? = some d → ∃ v, vs[i]? = some v ∧ RD K β H v d
  | _, _, .nil, i, d, h => by simp at h
  | _, _, .cons h r, 0, d, e => by
    simp at e
    subst e
    exact ⟨_, rfl, h⟩
  | _, _, .cons h r, i + 1, d, e => by
    obtain ⟨v, h1, h2⟩ := RDs.get r (i := i) (d := d) (by simpa using e)
    exact ⟨v, by simpa using h1, h2⟩
theorem RDs.append : ∀ {vs ws : List V} {ds es : List D}, RDs K β H vs ds → RDs K β H ws es → RDs K β H (vs ++ ws) (ds ++ es)
  | _, _, _, _, .nil, s => s
  | _, _, _, _, .cons h r, s => .cons h (RDs.append r s)
theorem RDs.drop : ∀ {vs : List V} {ds : List D} (n : Nat), RDs K β H vs ds → RDs K β H (vs.drop n) (ds.drop n)
  | _, _, 0, h => h
  | _, _, _ + 1, .nil => .nil
  | _, _, n + 1, .cons _ r => RDs.drop n r
theorem RDs.take : ∀ {vs : List V} {ds : List D} (n : Nat), RDs K β H vs ds → RDs K β H (vs.take n) (ds.take n)
  | _, _, 0, _ => .nil
  | _, _, _ + 1, .nil => .nil
  | _, _, n + 1, .cons h r => .cons h (RDs.take n r)
theorem RDs.set {x : V} {d : D} (r : RD K β H x d) : ∀ {vs : List V} {ds : List D} (i : Nat), RDs K β H vs ds → RDs K β H (vs.set i x) (ds.set i d)
  | _, _, _, .nil => .nil
  | _, _, 0, .cons _ t => .cons r t
  | _, _, i + 1, .cons q t => .cons q (RDs.set r i t)
theorem RDs.dropLast : ∀ {vs : List V} {ds : List D}, RDs K β H vs ds → RDs K β H vs.dropLast ds.dropLast
  | _, _, .nil => .nil
  | _, _, .cons h .nil => .nil
  | _, _, .cons h (.cons h2 r) => .cons h (RDs.dropLast (.cons h2 r))
theorem RDs.one {vs : List V} {d : D} (h : RDs K β H vs [d]) : ∃ v, vs = [v] ∧ RD K β H v d := by
  cases h with
  | cons a b => cases b; exact ⟨_, rfl, a⟩
theorem RDs.two {vs : List V} {d e : D} (h : RDs K β H vs [d, e]) : ∃ v w, vs = [v, w] ∧ RD K β H v d ∧ RD K β H w e := by
  cases h with
  | cons a b => obtain ⟨w, rfl, c⟩ := b.one; exact ⟨_, _, rfl, a, c⟩
theorem RDs.ints (ns : List Int) : RDs K β H (ns.map V.int) (ns.map D.int) := by
  induction ns with
  | nil => exact .nil
  | cons n r ih => exact .cons (.int n) ih
end

/-- pairs of a key and a value -/
def RPs {κ : Type} (K : PySem.W.Frag) (β : List Addr) (H : Hp) : List (κ × V) → List (κ × D) → Prop := Paired fun p q => p.1 = q.1 ∧ RD K β H p.2 q.2
section
variable {κ : Type} {K : PySem.W.Frag} {cl : Str → Option Addr} {β β' : List Addr} {H H' : Hp}
theorem RPs.mono (e : Ew β H β' H') {ys : List (κ × V)} {kvs : List (κ × D)} (h : RPs K β H ys kvs) : RPs K β' H' ys kvs := Paired.mapP h fun _ _ x => ⟨x.1, x.2.mono e⟩
theorem RPs.length {ys : List (κ × V)} {kvs : List (κ × D)} (h : RPs K β H ys kvs) : ys.length = kvs.length := Paired.length h
end

def RO (K : PySem.W.Frag) (cl : Str → Option Addr) (β : List Addr) (H : Hp) (a : Addr) : O → Prop
  | .lst ds => ∃ xs, H a = some (.lst xs) ∧ RDs K β H xs ds
  | .dct kvs => ∃ ys, H a = some (.dK ys) ∧ RPs K β H ys kvs
  | .lck kvs => ∃ ys o, H a = some (.frz o (.dK ys)) ∧ RPs K β H ys kvs
  | .ins C fs => ∃ Ca dx ys, cl C = some Ca ∧ H a = some (.ins Ca dx ys) ∧ RPs K β H ys fs
structure Rl (K : PySem.W.Frag) (cl : Str → Option Addr) (β : List Addr) (S : So) (H : Hp) : Prop where
  len : β.length = S.length
  inj : ∀ (m n : Nat) (a : Addr), β[m]? = some a → β[n]? = some a → m = n
  obj : ∀ (n : Nat) (a : Addr) (o : O), β[n]? = some a → S[n]? = some o → RO K cl β H a o
def RX (K : PySem.W.Frag) (cl : Str → Option Addr) (β : List Addr) (H : Hp) (cls : Value) (d : Option Addr) (c : Exn) : Prop :=
  ∃ Ca dd ys, cl c.cls = some Ca ∧ cls = .ref Ca ∧ d = some dd ∧ H dd = some (.xd ys) ∧ RPs K β H ys c.fs
structure RVs (G : Gs) (β : List Addr) (H : Hp) (σ : Sl) (ρ : Ro) : Prop where
  len : σ.length = ρ.length
  slot : ∀ (i : Nat) (d : D), ρ[i]? = some (some d) → ∃ v, σ[i]? = some (some v) ∧ RD G.K β H v d
  fx : ∀ p ∈ G.fx, σ[p.1]? = some (some p.2)
  xx : ∀ t ∈ G.xx, RX G.K G.cl β H t.1 t.2.1 t.2.2
section
variable {G : Gs} {K : PySem.W.Frag} {cl : Str → Option Addr} {β β' : List Addr} {S : So} {H H' : Hp} {a p : Addr} {o o' : O} {ho : HO} {n : Nat} {σ : Sl} {ρ : Ro}
theorem RX.mono {cls : Value} {d : Option Addr} {c : Exn} (e : Ew β H β' H') (h : RX K cl β H cls d c) : RX K cl β' H' cls d c := by
  obtain ⟨Ca, dd, ys, h1, h2, h3, h4, h5⟩ := h
  exact ⟨Ca, dd, ys, h1, h2, h3, e.imm _ _ trivial h4, h5.mono e⟩
theorem RVs.mono (e : Ew β H β' H') (h : RVs G β H σ ρ) : RVs G β' H' σ ρ :=
  ⟨h.len, fun i d q => let ⟨v, h1, h2⟩ := h.slot i d q; ⟨v, h1, h2.mono e⟩, h.fx, fun t ht => (h.xx t ht).mono e⟩
theorem RO.keep (e : Ew β H β' H') (hs : H' a = H a) (h : RO K cl β H a o) : RO K cl β' H' a o := by
  cases o with
  | lst ds => obtain ⟨xs, h1, h2⟩ := h; exact ⟨xs, hs.trans h1, h2.mono e⟩
  | dct kvs => obtain ⟨xs, h1, h2⟩ := h; exact ⟨xs, hs.trans h1, h2.mono e⟩
  | lck kvs => obtain ⟨xs, o, h1, h2⟩ := h; exact ⟨xs, o, hs.trans h1, h2.mono e⟩
  | ins C fs => obtain ⟨Ca, dx, ys, h0, h1, h2⟩ := h; exact ⟨Ca, dx, ys, h0, hs.trans h1, h2.mono e⟩
theorem RO.there (h : RO K cl β H a o) : ∃ x, H a = some x ∧ ¬ Imm x := by
  cases o with
  | lst ds => obtain ⟨xs, h1, _⟩ := h; exact ⟨_, h1, fun z => z⟩
  | dct kvs => obtain ⟨xs, h1, _⟩ := h; exact ⟨_, h1, fun z => z⟩
  | lck kvs => obtain ⟨xs, o, h1, _⟩ := h; exact ⟨_, h1, fun z => z⟩
  | ins C fs => obtain ⟨Ca, dx, ys, _, h1, _⟩ := h; exact ⟨_, h1, fun z => z⟩
theorem get_of_len {α β : Type} {l : List α} {m : List β} (e : l.length = m.length) {n : Nat} {y : β} (h : m[n]? = some y) : ∃ x, l[n]? = some x := by
  have h1 := (List.getElem?_eq_some_iff.mp h).1
  exact ⟨l[n]'(by omega), List.getElem?_eq_getElem (by omega)⟩
theorem Rl.at (R : Rl K cl β S H) (h : S[n]? = some o) : ∃ a, β[n]? = some a ∧ RO K cl β H a o := by
  obtain ⟨a, ha⟩ := get_of_len R.len h
  exact ⟨a, ha, R.obj n a o ha h⟩
theorem Rl.get (R : Rl K cl β S H) (h : S[n]? = some o) (ha : β[n]? = some a) : RO K cl β H a o := R.obj n a o ha h
theorem Rl.mut (R : Rl K cl β S H) (ha : β[n]? = some a) : ∃ x, H a = some x ∧ ¬ Imm x := by
  obtain ⟨o, ho⟩ := get_of_len R.len.symm ha
  exact (R.obj n a o ha ho).there
/-- an object of the store is changed -/
theorem Rl.upd (R : Rl K cl β S H) (ha : β[n]? = some a) (nf : ∀ o u, H a ≠ some (.frz o u)) (new : Ex β H β (upd H a ho) → RO K cl β (L2.upd H a ho) a o') : Rl K cl β (S.set n o') (L2.upd H a ho) ∧ Ex β H β (L2.upd H a ho) := by
  obtain ⟨x, hx, ni⟩ := R.mut ha
  have e : Ex β H β (L2.upd H a ho) := ⟨⟨fun _ _ h => h, fun b q i h => by
    rw [upd_ne]
    · exact h
    · rintro rfl
      rw [hx] at h
      cases h
      exact ni i⟩, fun b q u h => by
    rw [upd_ne]
    · exact h
    · rintro rfl
      exact nf q u h⟩
  refine ⟨⟨by rw [R.len, List.length_set], R.inj, fun m b q hb hq => ?_⟩, e⟩
  by_cases hm : m = n
  · subst hm
    rw [ha] at hb
    cases hb
    have hlt : m < S.length := by rw [← R.len]; exact (List.getElem?_eq_some_iff.mp ha).1
    rw [List.getElem?_set_self hlt] at hq
    cases hq
    exact new e
  · rw [List.getElem?_set_ne (Ne.symm hm)] at hq
    have hne : b ≠ a := fun z => hm (R.inj m n a (by rw [← z]; exact hb) ha)
    exact (R.obj m b q hb hq).keep e (upd_ne hne)
theorem Ex.fresh (hp : H p = none) : Ex β H β (L2.upd H p ho) := ⟨⟨fun _ _ h => h, fun b q _ h => by
  rw [upd_ne (ne_of_none h hp)]
  exact h⟩, fun b q u h => by
  rw [upd_ne (ne_of_none h hp)]
  exact h⟩
theorem Rl.not_in (R : Rl K cl β S H) (hp : H p = none) {m : Nat} : β[m]? ≠ some p := fun h => by
  obtain ⟨x, hx, _⟩ := R.mut h
  rw [hp] at hx
  cases hx
/-- a thing that the store does not hold is laid -/
theorem Rl.fresh (R : Rl K cl β S H) (hp : H p = none) : Rl K cl β S (L2.upd H p ho) :=
  ⟨R.len, R.inj, fun m b q hb hq => (R.obj m b q hb hq).keep (Ex.fresh (ho := ho) hp).toEw (upd_ne fun z => R.not_in hp (z ▸ hb))⟩
theorem Ex.new (hp : H p = none) : Ex β H (β ++ [p]) (L2.upd H p ho) := ⟨⟨fun n a h => by
  rw [List.getElem?_append_left (List.getElem?_eq_some_iff.mp h).1]
  exact h, fun b q _ h => by
  rw [upd_ne (ne_of_none h hp)]
  exact h⟩, fun b q u h => by
  rw [upd_ne (ne_of_none h hp)]
  exact h⟩
/-- a new object of the store -/
theorem Rl.new (R : Rl K cl β S H) (hp : H p = none) (new : RO K cl (β ++ [p]) (L2.upd H p ho) p o') : Rl K cl (β ++ [p]) (S ++ [o']) (L2.upd H p ho) := by
  have last : ∀ {m : Nat} {b : Addr}, (β ++ [p])[m]? = some b → β[m]? = some b ∨ (m = β.length ∧ b = p) := fun {m b} h => by
    rcases Nat.lt_trichotomy m β.length with hm | hm | hm
    · rw [List.getElem?_append_left hm] at h
      exact .inl h
    · subst hm
      rw [List.getElem?_append_right (Nat.le_refl _)] at h
      simp at h
      exact .inr ⟨rfl, h.symm⟩
    · rw [List.getElem?_eq_none (by simp; omega)] at h
      cases h
  refine ⟨by simp [R.len], fun m n b h1 h2 => ?_, fun m b q hb hq => ?_⟩
  · rcases last h1 with q1 | ⟨q1, e1⟩ <;> rcases last h2 with q2 | ⟨q2, e2⟩
    · exact R.inj m n b q1 q2
    · subst e2; exact absurd q1 (R.not_in hp)
    · subst e1; exact absurd q2 (R.not_in hp)
    · omega
  · rcases last hb with h1 | ⟨h1, e1⟩
    · have hm : m < S.length := by rw [← R.len]; exact (List.getElem?_eq_some_iff.mp h1).1
      rw [List.getElem?_append_left hm] at hq
      exact (R.obj m b q h1 hq).keep (Ex.new (ho := ho) hp).toEw (upd_ne fun z => R.not_in hp (z ▸ h1))
    · subst e1
      have : m = S.length := by rw [h1, R.len]
      subst this
      rw [List.getElem?_append_right (Nat.le_refl _)] at hq
      simp at hq
      subst hq
      exact new
theorem RVs.set {i : Nat} {v : V} {d : D} (h : RVs G β H σ ρ) (r : RD G.K β H v d) (hf : ∀ p ∈ G.fx, p.1 ≠ i) : RVs G β H (σ.set i (some v)) (ρ.set i (some d)) := by
  refine ⟨by simp [h.len], fun j e q => ?_, fun p hp => ?_, h.xx⟩
  · by_cases hj : j = i
    · subst hj
      have hlt : j < ρ.length := by
        have := (List.getElem?_eq_some_iff.mp q).1
        simpa using this
      rw [List.getElem?_set_self hlt] at q
      cases q
      exact ⟨v, List.getElem?_set_self (by rw [h.len]; exact hlt), r⟩
    · rw [List.getElem?_set_ne (Ne.symm hj)] at q ⊢
      exact h.slot j e q
  · rw [List.getElem?_set_ne (Ne.symm (hf p hp))]
    exact h.fx p hp
theorem RVs.clear {i : Nat} {x : Option V} (h : RVs G β H σ ρ) (hf : ∀ p ∈ G.fx, p.1 ≠ i) : RVs G β H (σ.set i x) (ρ.set i none) := by
  refine ⟨by simp [h.len], fun j e q => ?_, fun p hp => ?_, h.xx⟩
  · by_cases hj : j = i
    · subst hj
      by_cases hlt : j < ρ.length
      · rw [List.getElem?_set_self hlt] at q
        cases q
      · rw [List.getElem?_eq_none (by simpa using hlt)] at q
        cases q
    · rw [List.getElem?_set_ne (Ne.symm hj)] at q ⊢
      exact h.slot j e q
  · rw [List.getElem?_set_ne (Ne.symm (hf p hp))]
    exact h.fx p hp
end

/-! ### results -/
inductive Rs (α : Type) where
  | ok (a : α) (S : So)
  | ex (c : Exn) (r : Ro) (S : So)
  | stuck
def Rs.bind {α γ : Type} (r : Rs α) (f : α → So → Rs γ) : Rs γ := match r with
  | .ok a S => f a S
  | .ex c r S => .ex c r S
  | .stuck => .stuck
@[simp] theorem Rs.bind_ok {α γ : Type} (a : α) (S : So) (f : α → So → Rs γ) : (Rs.ok a S).bind f = f a S := rfl
@[simp] theorem Rs.bind_ex {α γ : Type} (c : Exn) (r : Ro) (S : So) (f : α → So → Rs γ) : (Rs.ex c r S : Rs α).bind f = .ex c r S := rfl
@[simp] theorem Rs.bind_stuck {α γ : Type} (f : α → So → Rs γ) : (Rs.stuck : Rs α).bind f = .stuck := rfl
def Gd {α : Type} (G : Gs) (W : WX) (β : List Addr) (H : Hp) (r : Rs α) (k : α → So → List Addr → Hp → Prop) : Prop := match r with
  | .ok a S => ∀ β' H', Ex β H β' H' → Rl G.K G.cl β' S H' → k a S β' H'
  | .ex c ρ S => ∀ β' H' σ cls d, Ex β H β' H' → Rl G.K G.cl β' S H' → RVs G β' H' σ ρ → RX G.K G.cl β' H' cls d c → W cls d σ H'
  | .stuck => False
section
variable {α γ : Type} {G : Gs} {W : WX} {β β' : List Addr} {H H' : Hp} {r : Rs α} {f : α → So → Rs γ}
theorem Gd.mono {k : α → So → List Addr → Hp → Prop} (e : Ex β H β' H') (h : Gd G W β H r k) : Gd G W β' H' r k := by
  cases r with
  | ok a S => exact fun b c e' R => h b c (e.trans e') R
  | ex c ρ S => exact fun b q σ cls d e' R V x => h b q σ cls d (e.trans e') R V x
  | stuck => exact h
theorem Gd.imp {k k' : α → So → List Addr → Hp → Prop} (h : Gd G W β H r k) (hk : ∀ a S β' H', Ex β H β' H' → Rl G.K G.cl β' S H' → k a S β' H' → k' a S β' H') : Gd G W β H r k' := by
  cases r with
  | ok a S => exact fun b c e' R => hk _ _ _ _ e' R (h b c e' R)
  | ex c ρ S => exact h
  | stuck => exact h
theorem Gd.bind {k : γ → So → List Addr → Hp → Prop} (h : Gd G W β H (r.bind f) k) : Gd G W β H r fun a S β' H' => Gd G W β' H' (f a S) k := by
  cases r with
  | ok a S => exact fun b c e' _ => Gd.mono e' h
  | ex c ρ S => exact h
  | stuck => exact h
end

/-! ### mirrors and their readings -/
abbrev ME := Ro → So → Rs D
abbrev MT := Ro → So → Rs Bool
abbrev MA := Ro → So → Rs (List D)
inductive Fl where
  | nx | bk | ct | rt (d : D)
abbrev MS := Ro → So → Rs (Fl × Ro)
abbrev MF := List D → So → Rs D
def kV (G : Gs) (Q : VK) : D → So → List Addr → Hp → Prop := fun d _ β' H' => ∀ v, RD G.K β' H' v d → Q v H'
def kT (Q : Bool → Hp → Prop) : Bool → So → List Addr → Hp → Prop := fun b _ _ H' => Q b H'
def kA (G : Gs) (Q : List V → Hp → Prop) : List D → So → List Addr → Hp → Prop := fun ds _ β' H' => ∀ vs, RDs G.K β' H' vs ds → Q vs H'
def kS (G : Gs) (D : Ends) : Fl × Ro → So → List Addr → Hp → Prop := fun p _ β' H' => match p.1 with
  | .nx => ∀ σ', RVs G β' H' σ' p.2 → D.nx σ' H'
  | .bk => ∀ σ', RVs G β' H' σ' p.2 → D.bk σ' H'
  | .ct => ∀ σ', RVs G β' H' σ' p.2 → D.ct σ' H'
  | .rt d => ∀ v, RD G.K β' H' v d → D.rt v H'
def tM (G : Gs) (W : WX) (m : ME) : TE := fun σ H Q => ∃ β ρ S, Rl G.K G.cl β S H ∧ RVs G β H σ ρ ∧ Gd G W β H (m ρ S) (kV G Q)
def tT (G : Gs) (W : WX) (m : MT) : TT := fun σ H Q => ∃ β ρ S, Rl G.K G.cl β S H ∧ RVs G β H σ ρ ∧ Gd G W β H (m ρ S) (kT Q)
def tA (G : Gs) (W : WX) (m : MA) : TA := fun σ H Q => ∃ β ρ S, Rl G.K G.cl β S H ∧ RVs G β H σ ρ ∧ Gd G W β H (m ρ S) (kA G Q)
def sM (G : Gs) (W : WX) (m : MS) : TS := fun D σ H => ∃ β ρ S, Rl G.K G.cl β S H ∧ RVs G β H σ ρ ∧ Gd G W β H (m ρ S) (kS G D)
def Gs.out (G : Gs) : Gs := { K := G.K, cl := G.cl }
def spM (K : PySem.W.Frag) (cl : Str → Option Addr) (n : Nat) (m : MF) : Sp := fun vs H Q E => ∃ β ds S, Rl K cl β S H ∧ RDs K β H vs ds ∧ ds.length = n ∧
  Gd { K := K, cl := cl } (fun cls d _ H' => E cls d H') β H (m ds S) (kV { K := K, cl := cl } Q)

section
variable {X : Cx} {G : Gs} {W : WX}
theorem pe_imp {e : Expr} {t t' : TE} (h : PE X e t) (hi : ∀ σ H Q, t' σ H Q → t σ H Q) : PE X e t' := ⟨fun pins s σ H Q I q => h.run pins s σ H Q I (hi σ H Q q)⟩
theorem pt_imp {e : Expr} {t t' : TT} (h : PT X e t) (hi : ∀ σ H Q, t' σ H Q → t σ H Q) : PT X e t' := ⟨fun pins s σ H Q I q => h.run pins s σ H Q I (hi σ H Q q)⟩
theorem pw_imp {e : Expr} {t t' : TT} (h : PW X e t) (hi : ∀ σ H Q, t' σ H Q → t σ H Q) : PW X e t' := ⟨fun wh pins s σ H Q I q => h.run wh pins s σ H Q I (hi σ H Q q)⟩
theorem pa_imp {e : List Expr} {t t' : TA} (h : PA X e t) (hi : ∀ σ H Q, t' σ H Q → t σ H Q) : PA X e t' := ⟨fun p pins s σ H Q I q => h.run p pins s σ H Q I (hi σ H Q q)⟩
theorem ps_imp {e : Stmt} {t t' : TS} (h : PS X e t) (hi : ∀ D σ H, t' D σ H → t D σ H) : PS X e t' := ⟨fun pins s σ H D I q => h.run pins s σ H D I (hi D σ H q)⟩
theorem pss_imp {e : List Stmt} {t t' : TS} (h : PSs X e t) (hi : ∀ D σ H, t' D σ H → t D σ H) : PSs X e t' := ⟨fun pins s σ H D I q => h.run pins s σ H D I (hi D σ H q)⟩

/-! ### names, constants -/
def mVar (i : Nat) : ME := fun ρ S => match ρ[i]? with
  | some (some d) => .ok d S
  | _ => .stuck
def mC (d : D) : ME := fun _ S => .ok d S
theorem tM_var {i : Nat} {σ : Sl} {H : Hp} {Q : VK} (h : tM G W (mVar i) σ H Q) : tVar i σ H Q := by
  obtain ⟨β, ρ, S, R, V, h⟩ := h
  unfold mVar at h
  split at h
  · rename_i d e
    obtain ⟨v, h1, h2⟩ := V.slot i d e
    exact ⟨v, h1, h β H Ex.refl R v h2⟩
  · exact h.elim
theorem ce_var (i : Nat) {x : Str} {pos : Pos} (hN : X.N[i]? = some x := by rfl) (hv : Vis X.env.scope x := by first | exact Or.inl rfl | exact Or.inr (Or.inl rfl) | exact Or.inr (Or.inr rfl)) (hd : (x == ("__debug__" : Str)) = false := by decide)
    (hcd : (x == ("__classdict__" : Str)) = false := by decide) : PE X (.Name x pos) (tM G W (mVar i)) := pe_imp (pe_var hN hv hd hcd) fun _ _ _ h => tM_var h
theorem tM_c {v : V} {d : D} (hr : ∀ (β : List Addr) (H : Hp), RD G.K β H v d) {σ : Sl} {H : Hp} {Q : VK} (h : tM G W (mC d) σ H Q) : tC v σ H Q := by
  obtain ⟨β, ρ, S, R, V, h⟩ := h
  exact h β H Ex.refl R v (hr β H)
theorem ce_int {i : Int} {j pos} : PE X (.Constant (.int i) j pos) (tM G W (mC (.int i))) := pe_imp pe_int fun _ _ _ h => tM_c (fun _ _ => .int i) h
theorem ce_bl {b : Bool} {j pos} : PE X (.Constant (.bool b) j pos) (tM G W (mC (.bl b))) := pe_imp pe_bl fun _ _ _ h => tM_c (fun _ _ => .bl b) h
theorem ce_non {j pos} : PE X (.Constant .none j pos) (tM G W (mC .non)) := pe_imp pe_non fun _ _ _ h => tM_c (fun _ _ => .non) h
theorem ce_str {x : Str} {j pos} : PE X (.Constant (.str x) j pos) (tM G W (mC (.str x))) := pe_imp pe_str fun _ _ _ h => tM_c (fun _ _ => .str x) h
/-- a module's constant -/
theorem ce_glob {x : Str} {v : V} {u : Value} {d : D} {pos : Pos} (hm : X.mg x = some u) (r : RelV v u) (hr : ∀ (β : List Addr) (H : Hp), RD G.K β H v d) (hg : Gl X x := by rfl) (hd : (x == ("__debug__" : Str)) = false := by decide) :
    PE X (.Name x pos) (tM G W (mC d)) := pe_imp (pe_glob hg hm r hd) fun _ _ _ h => tM_c hr h

/-! ### operators -/
def m2 (f : D → D → So → Rs D) (ma mb : ME) : ME := fun ρ S => (ma ρ S).bind fun d S1 => (mb ρ S1).bind fun e S2 => f d e S2
def m1 (f : D → So → Rs D) (ma : ME) : ME := fun ρ S => (ma ρ S).bind fun d S1 => f d S1
/-- a two-place operation on abstract values against its reading -/
def OpM (G : Gs) (f : D → D → So → Rs D) (r : R2) : Prop := ∀ (W : WX) (β : List Addr) (S : So) (H : Hp) (x y : V) (d e : D) (Q : VK), Rl G.K G.cl β S H → RD G.K β H x d → RD G.K β H y e →
  Gd G W β H (f d e S) (kV G Q) → r x y H Q
def UnM (G : Gs) (f : D → So → Rs D) (r : V → Hp → VK → Prop) : Prop := ∀ (W : WX) (β : List Addr) (S : So) (H : Hp) (x : V) (d : D) (Q : VK), Rl G.K G.cl β S H → RD G.K β H x d →
  Gd G W β H (f d S) (kV G Q) → r x H Q
theorem tM_op {r : R2} {f : D → D → So → Rs D} {ma mb : ME} (hm : OpM G f r) {σ : Sl} {H : Hp} {Q : VK} (h : tM G W (m2 f ma mb) σ H Q) : tOp r (tM G W ma) (tM G W mb) σ H Q := by
  obtain ⟨β, ρ, S, R, V, h⟩ := h
  refine ⟨β, ρ, S, R, V, h.bind.imp fun d S1 β1 H1 e1 R1 h1 x rx => ?_⟩
  refine ⟨β1, ρ, S1, R1, V.mono e1, h1.bind.imp fun d2 S2 β2 H2 e2 R2 h2 y ry => ?_⟩
  exact hm W β2 S2 H2 x y d d2 Q R2 (rx.mono e2) ry h2
theorem tM_un {r : V → Hp → VK → Prop} {f : D → So → Rs D} {ma : ME} (hm : UnM G f r) {σ : Sl} {H : Hp} {Q : VK} (h : tM G W (m1 f ma) σ H Q) : tUn r (tM G W ma) σ H Q := by
  obtain ⟨β, ρ, S, R, V, h⟩ := h
  refine ⟨β, ρ, S, R, V, h.bind.imp fun d S1 β1 H1 e1 R1 h1 x rx => ?_⟩
  exact hm W β1 S1 H1 x d Q R1 rx h1
variable {a b : Expr} {ma mb : ME} {pos : Pos}
theorem ce_op {op : Operator} {r : R2} {f : D → D → So → Rs D} (ho : OpR X (binaryOp op) r) (hm : OpM G f r) (ha : PE X a (tM G W ma)) (hb : PE X b (tM G W mb)) : PE X (.BinOp a op b pos) (tM G W (m2 f ma mb)) :=
  pe_imp (pe_op ho ha hb) fun _ _ _ h => tM_op hm h
theorem ce_un {op : UnaryOp} {r : V → Hp → VK → Prop} {f : D → So → Rs D} (ho : UnR X (unaryOp op) r) (hm : UnM G f r) (ha : PE X a (tM G W ma)) : PE X (.UnaryOp op a pos) (tM G W (m1 f ma)) :=
  pe_imp (pe_un ho ha) fun _ _ _ h => tM_un hm h
theorem ce_cmp {op : CmpOp} {r : R2} {f : D → D → So → Rs D} (ho : OpR X (compareOp op) r) (hm : OpM G f r) (ha : PE X a (tM G W ma)) (hb : PE X b (tM G W mb)) (hk : behindInMarks op b = false) : PE X (.Compare a [op] [b] pos) (tM G W (m2 f ma mb)) :=
  pe_imp (pe_cmpR ho ha hb hk) fun _ _ _ h => tM_op hm h
end
end Mi
namespace Mi
open PySem PySem.Spec PyProof.Rows L2
/-- the greatest size of a text, a list, a tuple that a mirror makes -/
def lim : Nat := 100000
theorem lim_line : lim < sizeLine := by rw [sizeLine_eq]; decide
theorem lim_le {n : Nat} (h : n ≤ lim) : n ≤ sizeLine := Nat.le_trans h (Nat.le_of_lt lim_line)

/-! ### + - * // % ** -/
def addD : D → D → So → Rs D
  | .int i, .int j, S => .ok (.int (i + j)) S
  | .str x, .str y, S => if x.length + y.length ≤ lim then .ok (.str (x ++ y)) S else .stuck
  | .tup xs, .tup ys, S => if xs.length + ys.length ≤ lim then .ok (.tup (xs ++ ys)) S else .stuck
  | .ref m, .ref n, S => match S[m]?, S[n]? with
    | some (.lst xs), some (.lst ys) => if xs.length + ys.length ≤ lim then .ok (.ref S.length) (S ++ [.lst (xs ++ ys)]) else .stuck
    | _, _ => .stuck
  | _, _, _ => .stuck
def intOp (f : Int → Int → Option D) : D → D → So → Rs D
  | .int i, .int j, S => match f i j with
    | some d => .ok d S
    | none => .stuck
  | _, _, _ => .stuck
def subD : D → D → So → Rs D := intOp fun i j => some (.int (i - j))
def fdivD : D → D → So → Rs D := intOp fun i j => if j ≠ 0 ∧ j.natAbs < 1073741824 then some (.int (i.fdiv j)) else none
def modD : D → D → So → Rs D := intOp fun i j => if j ≠ 0 then some (.int (i.fmod j)) else none
def powD : D → D → So → Rs D := intOp fun i j => if 0 ≤ j ∧ j ≤ 1000000 ∧ i.natAbs < 2 ^ 64 then some (.int (i ^ j.toNat)) else none
def mulD : D → D → So → Rs D
  | .int i, .int j, S => if (-(2 ^ 64) < i ∧ i < 2 ^ 64) ∨ (-(2 ^ 64) < j ∧ j < 2 ^ 64) then .ok (.int (i * j)) S else .stuck
  | .tup xs, .int k, S => if xs ≠ [] ∧ 2 ≤ k ∧ k ≤ 1000 ∧ xs.length ≤ 1000 then .ok (.tup (List.replicate k.toNat xs).flatten) S else .stuck
  | _, _, _ => .stuck
def ltD : D → D → So → Rs D := intOp fun i j => some (.bl (decide (i < j)))
def leD : D → D → So → Rs D := intOp fun i j => some (.bl (decide (i ≤ j)))
def gtD : D → D → So → Rs D := intOp fun i j => some (.bl (decide (j < i)))
def geD : D → D → So → Rs D := intOp fun i j => some (.bl (decide (j ≤ i)))
def negD : D → So → Rs D
  | .int i, S => .ok (.int (-i)) S
  | _, _ => .stuck
section
variable {X : Cx} {G : Gs}
theorem RD.int_inv {K : PySem.W.Frag} {β : List Addr} {H : Hp} {v : V} {i : Int} (h : RD K β H v (.int i)) : v = .int i := by cases h; rfl
theorem opM_int {f : Int → Int → Option D} {g : Int → Int → V} {C : Int → Int → Prop} (hf : ∀ i j d, f i j = some d → C i j ∧ ∀ (β : List Addr) (H : Hp), RD G.K β H (g i j) d) : OpM G (intOp f) (rI C g) := by
  intro W β S H x y d e Q R rx ry h
  unfold intOp at h
  split at h
  · rename_i i j
    cases rx
    cases ry
    split at h
    · rename_i d hd
      obtain ⟨hc, hr⟩ := hf _ _ _ hd
      exact ⟨i, j, rfl, rfl, hc, h β H Ex.refl R _ (hr β H)⟩
    · exact h.elim
  · exact h.elim
theorem opM_int0 {f : Int → Int → Option D} {g : Int → Int → V} (hf : ∀ i j d, f i j = some d → ∀ (β : List Addr) (H : Hp), RD G.K β H (g i j) d) : OpM G (intOp f) (rI0 g) := by
  intro W β S H x y d e Q R rx ry h
  unfold intOp at h
  split at h
  · rename_i i j
    cases rx
    cases ry
    split at h
    · rename_i d hd
      exact ⟨i, j, rfl, rfl, h β H Ex.refl R _ (hf _ _ _ hd β H)⟩
    · exact h.elim
  · exact h.elim
theorem om_sub : OpM G subD (rI0 fun i j => .int (i - j)) := opM_int0 fun i j d h β H => by cases h; exact .int _
theorem om_fdiv : OpM G fdivD (rI CDivN fun i j => .int (i.fdiv j)) := opM_int fun i j d h => by
  split at h
  · rename_i hc
    cases h
    exact ⟨hc, fun β H => .int _⟩
  · cases h
theorem om_mod : OpM G modD (rI (fun _ j => j ≠ 0) fun i j => .int (i.fmod j)) := opM_int fun i j d h => by
  split at h
  · rename_i hc
    cases h
    exact ⟨hc, fun β H => .int _⟩
  · cases h
theorem om_pow : OpM G powD (rI CPow fun i j => .int (i ^ j.toNat)) := opM_int fun i j d h => by
  split at h
  · rename_i hc
    cases h
    exact ⟨hc, fun β H => .int _⟩
  · cases h
theorem om_lt : OpM G ltD (rI0 fun i j => .bl (decide (i < j))) := opM_int0 fun i j d h β H => by cases h; exact .bl _
theorem om_le : OpM G leD (rI0 fun i j => .bl (decide (i ≤ j))) := opM_int0 fun i j d h β H => by cases h; exact .bl _
theorem om_gt : OpM G gtD (rI0 fun i j => .bl (decide (j < i))) := opM_int0 fun i j d h β H => by cases h; exact .bl _
theorem om_ge : OpM G geD (rI0 fun i j => .bl (decide (j ≤ i))) := opM_int0 fun i j d h β H => by cases h; exact .bl _
theorem um_neg : UnM G negD (rU fun i => .int (-i)) := by
  intro W β S H x d Q R rx h
  unfold negD at h
  split at h
  · cases rx
    exact ⟨_, rfl, h β H Ex.refl R _ (.int _)⟩
  · exact h.elim
theorem flat_rep {K : PySem.W.Frag} {β : List Addr} {H : Hp} {xs : List V} {ds : List D} (r : RDs K β H xs ds) : ∀ k : Nat, RDs K β H (List.replicate k xs).flatten (List.replicate k ds).flatten
  | 0 => .nil
  | k + 1 => by
    rw [List.replicate_succ, List.replicate_succ, List.flatten_cons, List.flatten_cons]
    exact r.append (flat_rep r k)
theorem om_mul : OpM G mulD (fun x y H Q => rI CMul (fun i j => .int (i * j)) x y H Q ∨ rRepT G.K x y H Q) := by
  intro W β S H x y d e Q R rx ry h
  unfold mulD at h
  split at h
  · rename_i i j
    cases rx
    cases ry
    split at h
    · rename_i hc
      exact .inl ⟨i, j, rfl, rfl, hc, h β H Ex.refl R _ (.int _)⟩
    · exact h.elim
  · rename_i ds k
    cases rx with
    | tup hq hs =>
      cases ry
      split at h
      · rename_i hc
        rename_i l xs
        have hl := hs.length
        refine .inr ⟨l, k, xs, rfl, rfl, hq, ?_, hc.2.1, hc.2.2.1, by rw [hl]; exact hc.2.2.2, fun p hp => ?_⟩
        · rintro rfl
          cases hs
          exact hc.1 rfl
        · exact h _ _ (Ex.fresh hp) (R.fresh hp) _ (.tup (.inl (.inl upd_same)) ((flat_rep hs _).mono (Ex.fresh hp).toEw))
      · exact h.elim
  · exact h.elim
theorem oo_mul : OpR X (binaryOp .Mult) (fun x y H Q => rI CMul (fun i j => .int (i * j)) x y H Q ∨ rRepT X.K x y H Q) := op_mul.or op_repT
/-- + on ints, texts, tuples, lists -/
def rAddM (K : PySem.W.Frag) : R2 := fun x y H Q => (rI0 (fun i j => .int (i + j)) x y H Q) ∨ ((∃ i j, x = .str i ∧ y = .str j ∧ i.length + j.length ≤ sizeLine ∧ Q (.str (i ++ j)) H) ∨ (rCatA K x y H Q ∨ rCat x y H Q))
theorem oo_add : OpR X (binaryOp .Add) (rAddM X.K) := op_add.or (op_add_str.or (op_catA.or op_cat))
theorem om_add : OpM G addD (rAddM G.K) := by
  intro W β S H x y d e Q R rx ry h
  unfold addD at h
  split at h
  · cases rx
    cases ry
    exact .inl ⟨_, _, rfl, rfl, h β H Ex.refl R _ (.int _)⟩
  · cases rx
    cases ry
    split at h
    · rename_i hc
      exact .inr (.inl ⟨_, _, rfl, rfl, lim_le hc, h β H Ex.refl R _ (.str _)⟩)
    · exact h.elim
  · cases rx with
    | tup hq hs =>
      cases ry with
      | tup hq2 hs2 =>
        split at h
        · rename_i hc
          refine .inr (.inr (.inl ⟨_, _, _, _, rfl, rfl, hq, hq2, by rw [hs.length, hs2.length]; exact lim_le hc, ?_, ?_, ?_⟩))
          · rintro rfl
            cases hs
            exact h β H Ex.refl R _ (.tup hq2 hs2)
          · rintro _ rfl
            cases hs2
            exact h β H Ex.refl R _ (by rw [List.append_nil]; exact .tup hq hs)
          · intro _ _ p hp
            exact h _ _ (Ex.fresh hp) (R.fresh hp) _ (.tup (.inl (.inl upd_same)) ((hs.append hs2).mono (Ex.fresh hp).toEw))
        · exact h.elim
  · rename_i m n
    cases rx with
    | ref h1 =>
      cases ry with
      | ref h2 =>
        split at h
        · rename_i xs ys e1 e2
          split at h
          · rename_i hc
            obtain ⟨us, q1, r1⟩ := R.get e1 h1
            obtain ⟨ws, q2, r2⟩ := R.get e2 h2
            refine .inr (.inr (.inr ⟨_, _, us, ws, rfl, rfl, q1, q2, by rw [r1.length, r2.length]; exact lim_le hc, fun p hp => ?_⟩))
            refine h (β ++ [p]) _ (Ex.new hp) (R.new hp ⟨_, upd_same, (r1.append r2).mono (Ex.new hp).toEw⟩) _ (.ref ?_)
            rw [List.getElem?_append_right (by rw [R.len]; exact Nat.le_refl _), R.len]
            simp
          · exact h.elim
        · exact h.elim
  · exact h.elim

/-! ### tests -/
def asB : D → So → Rs Bool
  | .bl b, S => .ok b S
  | _, _ => .stuck
def mB (m : ME) : MT := fun ρ S => (m ρ S).bind asB
variable {W : WX} {ma mb : ME} {mt mu : MT} {a b : Expr} {pos : Pos}
theorem kB {β : List Addr} {H : Hp} {d : D} {S : So} {Q : Bool → Hp → Prop} (R : Rl G.K G.cl β S H) {x : V} (rx : RD G.K β H x d) (h : Gd G W β H (asB d S) (kT Q)) : ∃ c, x = .bl c ∧ Q c H := by
  unfold asB at h
  split at h
  · cases rx
    exact ⟨_, rfl, h β H Ex.refl R⟩
  · exact h.elim
theorem tM_B {m : ME} {σ : Sl} {H : Hp} {Q : Bool → Hp → Prop} (h : tT G W (mB m) σ H Q) : tM G W m σ H fun x H1 => ∃ c, x = .bl c ∧ Q c H1 := by
  obtain ⟨β, ρ, S, R, V, h⟩ := h
  exact ⟨β, ρ, S, R, V, h.bind.imp fun d S1 β1 H1 e1 R1 h1 x rx => kB R1 rx h1⟩
/-- an expression whose value is a bool, as a test -/
theorem ct_val {e : Expr} {m : ME} (h : PE X e (tM G W m)) (he : ∀ whole, isTrue e X.env whole = (do let v ← whole; standAt e.pos; holding [v] (truthy v)) := by intro _; rfl) : PT X e (tT G W (mB m)) :=
  pt_imp (pt_val h he) fun _ _ _ h => tM_B h
/-- a comparison as a test -/
theorem ct_cmp {op : CmpOp} {r : R2} {f : D → D → So → Rs D} (ho : OpR X (compareOp op) r) (hm : OpM G f r) (ha : PE X a (tM G W ma)) (hb : PE X b (tM G W mb)) (hk : behindInMarks op b = false) : PT X (.Compare a [op] [b] pos) (tT G W (mB (m2 f ma mb))) := by
  refine pt_imp (pt_cmpR ho ha hb hk) fun σ H Q h => ?_
  have := tM_op hm (tM_B h)
  exact this
def mAnd (mt mu : MT) : MT := fun ρ S => (mt ρ S).bind fun c S1 => if c then mu ρ S1 else .ok false S1
def mOr (mt mu : MT) : MT := fun ρ S => (mt ρ S).bind fun c S1 => if c then .ok true S1 else mu ρ S1
def mNot (mt : MT) : MT := fun ρ S => (mt ρ S).bind fun c S1 => .ok (!c) S1
theorem tT_and {σ : Sl} {H : Hp} {Q : Bool → Hp → Prop} (h : tT G W (mAnd mt mu) σ H Q) : tAnd (tT G W mt) (tT G W mu) σ H Q := by
  obtain ⟨β, ρ, S, R, V, h⟩ := h
  refine ⟨β, ρ, S, R, V, h.bind.imp fun c S1 β1 H1 e1 R1 h1 => ?_⟩
  cases c with
  | true => exact ⟨β1, ρ, S1, R1, V.mono e1, h1⟩
  | false => exact h1 β1 H1 Ex.refl R1
theorem tT_or {σ : Sl} {H : Hp} {Q : Bool → Hp → Prop} (h : tT G W (mOr mt mu) σ H Q) : tOr (tT G W mt) (tT G W mu) σ H Q := by
  obtain ⟨β, ρ, S, R, V, h⟩ := h
  refine ⟨β, ρ, S, R, V, h.bind.imp fun c S1 β1 H1 e1 R1 h1 => ?_⟩
  cases c with
  | true => exact h1 β1 H1 Ex.refl R1
  | false => exact ⟨β1, ρ, S1, R1, V.mono e1, h1⟩
theorem tT_not {σ : Sl} {H : Hp} {Q : Bool → Hp → Prop} (h : tT G W (mNot mt) σ H Q) : tNot (tT G W mt) σ H Q := by
  obtain ⟨β, ρ, S, R, V, h⟩ := h
  exact ⟨β, ρ, S, R, V, h.bind.imp fun c S1 β1 H1 e1 R1 h1 => h1 β1 H1 Ex.refl R1⟩
theorem cw_and1 (ha : PT X a (tT G W mt)) : PW X (.BoolOp .And [a] pos) (tT G W mt) := pw_and1 ha
theorem cw_or1 (ha : PT X a (tT G W mt)) : PW X (.BoolOp .Or [a] pos) (tT G W mt) := pw_or1 ha
theorem cw_and {rest : List Expr} (ha : PT X a (tT G W mt)) (hb : PW X (.BoolOp .And (b :: rest) pos) (tT G W mu)) : PW X (.BoolOp .And (a :: b :: rest) pos) (tT G W (mAnd mt mu)) := pw_imp (pw_and ha hb) fun _ _ _ h => tT_and h
theorem cw_or {rest : List Expr} (ha : PT X a (tT G W mt)) (hb : PW X (.BoolOp .Or (b :: rest) pos) (tT G W mu)) : PW X (.BoolOp .Or (a :: b :: rest) pos) (tT G W (mOr mt mu)) := pw_imp (pw_or ha hb) fun _ _ _ h => tT_or h
theorem ct_not (ha : PT X a (tT G W mt)) : PT X (.UnaryOp .Not a pos) (tT G W (mNot mt)) := pt_imp (pt_not ha) fun _ _ _ h => tT_not h
/-- and, or, not as values (bools) -/
def mAndV (ma mb : ME) : ME := fun ρ S => (ma ρ S).bind fun c S1 => match c with
  | .bl true => mb ρ S1
  | .bl false => .ok (.bl false) S1
  | _ => .stuck
def mOrV (ma mb : ME) : ME := fun ρ S => (ma ρ S).bind fun c S1 => match c with
  | .bl true => .ok (.bl true) S1
  | .bl false => mb ρ S1
  | _ => .stuck
def notD : D → So → Rs D
  | .bl b, S => .ok (.bl (!b)) S
  | _, _ => .stuck
def mNotV (ma : ME) : ME := m1 notD ma
theorem tM_andV {σ : Sl} {H : Hp} {Q : VK} (h : tM G W (mAndV ma mb) σ H Q) : tAndV (tM G W ma) (tM G W mb) σ H Q := by
  obtain ⟨β, ρ, S, R, V, h⟩ := h
  refine ⟨β, ρ, S, R, V, h.bind.imp fun c S1 β1 H1 e1 R1 h1 x rx => ?_⟩
  split at h1
  · cases rx
    exact ⟨true, rfl, ⟨β1, ρ, S1, R1, V.mono e1, h1⟩⟩
  · cases rx
    exact ⟨false, rfl, h1 β1 H1 Ex.refl R1 _ (.bl _)⟩
  · exact h1.elim
theorem tM_orV {σ : Sl} {H : Hp} {Q : VK} (h : tM G W (mOrV ma mb) σ H Q) : tOrV (tM G W ma) (tM G W mb) σ H Q := by
  obtain ⟨β, ρ, S, R, V, h⟩ := h
  refine ⟨β, ρ, S, R, V, h.bind.imp fun c S1 β1 H1 e1 R1 h1 x rx => ?_⟩
  split at h1
  · cases rx
    exact ⟨true, rfl, h1 β1 H1 Ex.refl R1 _ (.bl _)⟩
  · cases rx
    exact ⟨false, rfl, ⟨β1, ρ, S1, R1, V.mono e1, h1⟩⟩
  · exact h1.elim
theorem ce_one {op : BoolOp} {m : ME} (h : PE X a (tM G W m)) : PE X (.BoolOp op [a] pos) (tM G W m) := pe_one h
theorem ce_and {rest : List Expr} (ha : PE X a (tM G W ma)) (hb : PE X (.BoolOp .And (b :: rest) pos) (tM G W mb)) : PE X (.BoolOp .And (a :: b :: rest) pos) (tM G W (mAndV ma mb)) := pe_imp (pe_and ha hb) fun _ _ _ h => tM_andV h
theorem ce_or {rest : List Expr} (ha : PE X a (tM G W ma)) (hb : PE X (.BoolOp .Or (b :: rest) pos) (tM G W mb)) : PE X (.BoolOp .Or (a :: b :: rest) pos) (tM G W (mOrV ma mb)) := pe_imp (pe_or ha hb) fun _ _ _ h => tM_orV h
theorem ce_not (ha : PE X a (tM G W ma)) : PE X (.UnaryOp .Not a pos) (tM G W (mNotV ma)) := by
  refine pe_imp (pe_not ha) fun σ H Q h => ?_
  obtain ⟨β, ρ, S, R, V, h⟩ := h
  refine ⟨β, ρ, S, R, V, h.bind.imp fun d S1 β1 H1 e1 R1 h1 x rx => ?_⟩
  unfold notD at h1
  split at h1
  · cases rx
    exact ⟨_, rfl, h1 β1 H1 Ex.refl R1 _ (.bl _)⟩
  · exact h1.elim
def mIte (mt : MT) (ma mb : ME) : ME := fun ρ S => (mt ρ S).bind fun c S1 => if c then ma ρ S1 else mb ρ S1
theorem ce_ifExp {c : Expr} (hc : PT X c (tT G W mt)) (ha : PE X a (tM G W ma)) (hb : PE X b (tM G W mb)) : PE X (.IfExp c a b pos) (tM G W (mIte mt ma mb)) := by
  refine pe_imp (pe_ifExp hc ha hb) fun σ H Q h => ?_
  obtain ⟨β, ρ, S, R, V, h⟩ := h
  refine ⟨β, ρ, S, R, V, h.bind.imp fun c S1 β1 H1 e1 R1 h1 => ?_⟩
  cases c with
  | true => exact ⟨β1, ρ, S1, R1, V.mono e1, h1⟩
  | false => exact ⟨β1, ρ, S1, R1, V.mono e1, h1⟩
/-- is None -/
def isND : D → So → Rs D
  | .non, S => .ok (.bl true) S
  | _, S => .ok (.bl false) S
def notND : D → So → Rs D
  | .non, S => .ok (.bl false) S
  | _, S => .ok (.bl true) S
theorem RD.non_iff {K : PySem.W.Frag} {β : List Addr} {H : Hp} {v : V} {d : D} (h : RD K β H v d) : decide (v = .non) = (match d with | .non => true | _ => false) := by
  cases h <;> simp
theorem ce_isN {m : ME} {j pos'} (ha : PE X a (tM G W m)) : PE X (.Compare a [.Is] [.Constant .none j pos'] pos) (tM G W (m1 isND m)) := by
  refine pe_imp (pe_cmp (pc_isN ha)) fun σ H Q h => ?_
  obtain ⟨β, ρ, S, R, V, h⟩ := h
  refine ⟨β, ρ, S, R, V, h.bind.imp fun d S1 β1 H1 e1 R1 h1 x rx => ?_⟩
  show Q (.bl (decide (x = .non))) H1
  rw [rx.non_iff]
  cases d <;> exact h1 β1 H1 Ex.refl R1 _ (.bl _)
theorem ce_notN {m : ME} {j pos'} (ha : PE X a (tM G W m)) : PE X (.Compare a [.IsNot] [.Constant .none j pos'] pos) (tM G W (m1 notND m)) := by
  refine pe_imp (pe_cmp (pc_notN ha)) fun σ H Q h => ?_
  obtain ⟨β, ρ, S, R, V, h⟩ := h
  refine ⟨β, ρ, S, R, V, h.bind.imp fun d S1 β1 H1 e1 R1 h1 x rx => ?_⟩
  show Q (.bl (!decide (x = .non))) H1
  rw [rx.non_iff]
  cases d <;> exact h1 β1 H1 Ex.refl R1 _ (.bl _)
theorem ct_isN {m : ME} {j pos'} (ha : PE X a (tM G W m)) : PT X (.Compare a [.Is] [.Constant .none j pos'] pos) (tT G W (mB (m1 isND m))) := by
  refine pt_imp (pt_cmp (pc_isN ha)) fun σ H Q h => ?_
  obtain ⟨β, ρ, S, R, V, h⟩ := tM_B h
  refine ⟨β, ρ, S, R, V, h.bind.imp fun d S1 β1 H1 e1 R1 h1 x rx => ?_⟩
  show ∃ c, L2.V.bl (decide (x = .non)) = L2.V.bl c ∧ Q c H1
  rw [rx.non_iff]
  cases d <;> exact h1 β1 H1 Ex.refl R1 _ (.bl _)
theorem ct_notN {m : ME} {j pos'} (ha : PE X a (tM G W m)) : PT X (.Compare a [.IsNot] [.Constant .none j pos'] pos) (tT G W (mB (m1 notND m))) := by
  refine pt_imp (pt_cmp (pc_notN ha)) fun σ H Q h => ?_
  obtain ⟨β, ρ, S, R, V, h⟩ := tM_B h
  refine ⟨β, ρ, S, R, V, h.bind.imp fun d S1 β1 H1 e1 R1 h1 x rx => ?_⟩
  show ∃ c, L2.V.bl (!decide (x = .non)) = L2.V.bl c ∧ Q c H1
  rw [rx.non_iff]
  cases d <;> exact h1 β1 H1 Ex.refl R1 _ (.bl _)
/-- a < b < c -/
def mChain (f g : D → D → So → Rs D) (ma mb mc : ME) : ME := fun ρ S => (ma ρ S).bind fun d S1 => (mb ρ S1).bind fun e S2 => (f d e S2).bind fun z S3 => match z with
  | .bl true => (mc ρ S3).bind fun u S4 => g e u S4
  | .bl false => .ok (.bl false) S3
  | _ => .stuck
theorem tM_chain {f g : D → D → So → Rs D} {r r' : R2} {mc : ME} (hm : OpM G f r) (hm' : OpM G g r') {σ : Sl} {H : Hp} {Q : VK} (h : tM G W (mChain f g ma mb mc) σ H Q) : tChain r r' (tM G W ma) (tM G W mb) (tM G W mc) σ H Q := by
  obtain ⟨β, ρ, S, R, V, h⟩ := h
  refine ⟨β, ρ, S, R, V, h.bind.imp fun d S1 β1 H1 e1 R1 h1 x rx => ?_⟩
  refine ⟨β1, ρ, S1, R1, V.mono e1, h1.bind.imp fun d2 S2 β2 H2 e2 R2 h2 y ry => ?_⟩
  refine hm W β2 S2 H2 x y d d2 _ R2 (rx.mono e2) ry (h2.bind.imp fun z S3 β3 H3 e3 R3 h3 v rv => ?_)
  split at h3
  · cases rv
    refine ⟨true, rfl, ?_⟩
    show tM G W mc σ H3 _
    refine ⟨β3, ρ, S3, R3, V.mono (e1.trans (e2.trans e3)), h3.bind.imp fun u S4 β4 H4 e4 R4 h4 w rw' => ?_⟩
    exact hm' W β4 S4 H4 y w d2 u Q R4 (ry.mono (e3.trans e4)) rw' h4
  · cases rv
    exact ⟨false, rfl, h3 β3 H3 Ex.refl R3 _ (.bl _)⟩
  · exact h3.elim
theorem ce_chain {op op' : CmpOp} {c : Expr} {mc : ME} {f g : D → D → So → Rs D} {r r' : R2} (ho : OpR X (compareOp op) r) (ho' : OpR X (compareOp op') r') (hm : OpM G f r) (hm' : OpM G g r') (ha : PE X a (tM G W ma)) (hb : PE X b (tM G W mb)) (hc : PE X c (tM G W mc))
    (hk : lastMarks [op, op'] [b, c] = false := by with_unfolding_all rfl) : PE X (.Compare a [op, op'] [b, c] pos) (tM G W (mChain f g ma mb mc)) := pe_imp (pe_chain ho ho' ha hb hc hk) fun _ _ _ h => tM_chain hm hm' h
theorem ct_chain {op op' : CmpOp} {c : Expr} {mc : ME} {f g : D → D → So → Rs D} {r r' : R2} (ho : OpR X (compareOp op) r) (ho' : OpR X (compareOp op') r') (hm : OpM G f r) (hm' : OpM G g r') (ha : PE X a (tM G W ma)) (hb : PE X b (tM G W mb)) (hc : PE X c (tM G W mc))
    (hk : lastMarks [op, op'] [b, c] = false := by with_unfolding_all rfl) : PT X (.Compare a [op, op'] [b, c] pos) (tT G W (mB (mChain f g ma mb mc))) := by
  refine pt_imp (pt_chain ho ho' ha hb hc hk) fun σ H Q h => ?_
  exact tM_chain hm hm' (tM_B h)
end
end Mi
namespace Mi
open PySem PySem.Spec PyProof.Rows L2
/-! ### == and != over data -/
/-- what a value looks like -/
inductive Vw where
  | non | bl (b : Bool) | int (i : Int) | str (x : Str) | tup (ds : List D) | lst (ds : List D) | dct (kvs : List (Key × D)) | oth
def vw (S : So) : D → Vw
  | .non => .non
  | .bl b => .bl b
  | .int i => .int i
  | .str x => .str x
  | .tup ds => .tup ds
  | .frl ds => .lst ds
  | .ref n => match S[n]? with
    | some (.lst ds) => .lst ds
    | some (.dct kvs) => .dct kvs
    | _ => .oth
def eqL (f : D → D → Option Bool) : List D → List D → Option Bool
  | [], [] => some true
  | [], _ :: _ => some false
  | _ :: _, [] => some false
  | x :: xs, y :: ys => match f x y, eqL f xs ys with
    | some a, some b => some (a && b)
    | _, _ => none
def valD (kvs : List (Key × D)) (k : Key) : Option D := (kvs.find? fun kv => decide (kv.1 = k)).map (·.2)
def eqK (f : D → D → Option Bool) (ls : List (Key × D)) : List (Key × D) → Option Bool
  | [] => some true
  | (k, x) :: r => match valD ls k with
    | none => (eqK f ls r).map fun _ => false
    | some y => match f x y, eqK f ls r with
      | some a, some b => some (a && b)
      | _, _ => none
def eqW (dk : Bool) (f : D → D → Option Bool) : Vw → Vw → Option Bool
  | .tup xs, .tup ys => eqL f xs ys
  | .lst xs, .lst ys => eqL f xs ys
  | .dct ks, .dct ls => if dk then (eqK f ls ks).map fun b => (ks.length == ls.length && b) else none
  | .non, .non => some true
  | .non, .bl _ => some false
  | .non, .int _ => some false
  | .non, .str _ => some false
  | .non, .tup _ => some false
  | .non, .lst _ => some false
  | .bl _, .non => some false
  | .bl a1, .bl a2 => some (a1 == a2)
  | .bl a1, .int a2 => some ((if a1 then 1 else 0) == a2)
  | .bl _, .str _ => some false
  | .bl _, .tup _ => some false
  | .bl _, .lst _ => some false
  | .int _, .non => some false
  | .int a1, .bl a2 => some (a1 == (if a2 then 1 else 0))
  | .int a1, .int a2 => some (a1 == a2)
  | .int _, .str _ => some false
  | .int _, .tup _ => some false
  | .int _, .lst _ => some false
  | .str _, .non => some false
  | .str _, .bl _ => some false
  | .str _, .int _ => some false
  | .str a1, .str a2 => some (a1 == a2)
  | .str _, .tup _ => some false
  | .str _, .lst _ => some false
  | .tup _, .non => some false
  | .tup _, .bl _ => some false
  | .tup _, .int _ => some false
  | .tup _, .str _ => some false
  | .tup _, .lst _ => some false
  | .lst _, .non => some false
  | .lst _, .bl _ => some false
  | .lst _, .int _ => some false
  | .lst _, .str _ => some false
  | .lst _, .tup _ => some false
  | _, _ => none
def sameRef : D → D → Bool
  | .ref m, .ref n => m == n
  | _, _ => false
def eqB (dk : Bool) (S : So) : Nat → D → D → Option Bool
  | 0 => fun _ _ => none
  | n + 1 => fun d e => if sameRef d e then some true else eqW dk (eqB dk S n) (vw S d) (vw S e)
/-- what == gives -/
def eqO (S : So) (d e : D) : Option Bool := eqW true (eqB true S 40) (vw S d) (vw S e)
def neO (S : So) (d e : D) : Option Bool := eqW false (eqB false S 40) (vw S d) (vw S e)
def eqD (d e : D) (S : So) : Rs D := match eqO S d e with
  | some b => .ok (.bl b) S
  | none => .stuck
def neD (d e : D) (S : So) : Rs D := match neO S d e with
  | some b => .ok (.bl (!b)) S
  | none => .stuck

/-! ### relation of what is looked at -/
def RW (K : PySem.W.Frag) (β : List Addr) (H : Hp) (v : V) : Vw → Prop
  | .non => v = .non
  | .bl b => v = .bl b
  | .int i => v = .int i
  | .str x => v = .str x
  | .tup ds => ∃ a xs, v = .ref a ∧ SqT K H a xs ∧ RDs K β H xs ds
  | .lst ds => ∃ a xs, v = .ref a ∧ SqL K H a xs ∧ RDs K β H xs ds
  | .dct kvs => ∃ a ys, v = .ref a ∧ H a = some (.dK ys) ∧ RPs K β H ys kvs
  | .oth => True
theorem RD.vw {K : PySem.W.Frag} {cl : Str → Option Addr} {β : List Addr} {S : So} {H : Hp} {v : V} {d : D} (R : Rl K cl β S H) (h : RD K β H v d) : RW K β H v (vw S d) := by
  cases h with
  | non => rfl
  | bl b => rfl
  | int i => rfl
  | str x => rfl
  | tup h r => exact ⟨_, _, rfl, h, r⟩
  | frl h r => exact ⟨_, _, rfl, h.sq, r⟩
  | @ref n a h =>
    show RW K β H (.ref a) (match S[n]? with
      | some (.lst ds) => .lst ds
      | some (.dct kvs) => .dct kvs
      | _ => .oth)
    split
    · rename_i ds e
      obtain ⟨xs, h1, h2⟩ := R.get e h
      exact ⟨_, xs, rfl, SqL.of h1, h2⟩
    · rename_i kvs e
      obtain ⟨ys, h1, h2⟩ := R.get e h
      exact ⟨_, ys, rfl, h1, h2⟩
    · trivial

section
variable {X : Cx} {pins : List (Addr × Obj)} {σ : Sl} {H : Hp} {s : Shared} {β : List Addr} {S : So} {cl : Str → Option Addr}
theorem k_free (I : Inv X pins σ H s) {a : Addr} {o : Obj} (h : X.K.lookup a = some o) : H a = none := (I.bs a o (I.ok.mod.kin a o h)).2
theorem fz_cases {K : PySem.W.Frag} {a : Addr} {xs : List V} (h : FzL K H a xs) : (∃ o, H a = some (.frz o (.lst xs))) ∨ ∃ o, K.lookup a = some o := by
  rcases h with h | h
  · exact .inl h
  · rcases h (fun _ => none) with (z | ⟨o, z⟩) | ⟨o, _, _, z, _⟩
    · cases z
    · cases z
    · exact .inr ⟨o, z⟩
theorem tup_not_list (I : Inv X pins σ H s) {a : Addr} {xs ys : List V} (h : SqT X.K H a xs) (h' : SqL X.K H a ys) : False := by
  obtain ⟨its, _, ⟨o, e, hc, _⟩, _⟩ := I.tuple h
  obtain ⟨its', _, ⟨o', n', e', hc', _⟩, _⟩ := I.list h'
  rw [e] at e'
  cases e'
  rw [hc] at hc'
  exact absurd (Value.type.inj hc') (by decide)
theorem tup_not_ref (I : Inv X pins σ H s) (R : Rl X.K cl β S H) {a : Addr} {xs : List V} {n : Nat} (h : SqT X.K H a xs) (h' : β[n]? = some a) : False := by
  obtain ⟨x, hx, ni⟩ := R.mut h'
  rcases h with (h | ⟨o, h⟩) | ⟨o, _, _, h, _⟩
  · rw [hx] at h; cases h; exact ni trivial
  · rw [hx] at h; cases h; exact ni trivial
  · rw [k_free I h] at hx; cases hx
theorem frl_not_ref (I : Inv X pins σ H s) (R : Rl X.K cl β S H) {a : Addr} {xs : List V} {n : Nat} (h : FzL X.K H a xs) (h' : β[n]? = some a) : False := by
  obtain ⟨x, hx, ni⟩ := R.mut h'
  rcases fz_cases h with ⟨o, h⟩ | ⟨o, h⟩
  · rw [hx] at h; cases h; exact ni trivial
  · rw [k_free I h] at hx; cases hx
mutual
theorem RD.fn (I : Inv X pins σ H s) (R : Rl X.K cl β S H) : ∀ {v : V} {d e : D}, RD X.K β H v d → RD X.K β H v e → d = e
  | _, _, _, .non, h => by cases h; rfl
  | _, _, _, .bl b, h => by cases h; rfl
  | _, _, _, .int b, h => by cases h; rfl
  | _, _, _, .str b, h => by cases h; rfl
  | _, _, _, .tup q r, h => by
    cases h with
    | tup q' r' =>
      have := I.tuple_inj q q'
      subst this
      rw [RDs.fn I R r r']
    | frl q' r' => exact (tup_not_list I q q'.sq).elim
    | ref q' => exact (tup_not_ref I R q q').elim
  | _, _, _, .frl q r, h => by
    cases h with
    | tup q' r' => exact (tup_not_list I q' q.sq).elim
    | frl q' r' =>
      have := I.list_inj q.sq q'.sq
      subst this
      rw [RDs.fn I R r r']
    | ref q' => exact (frl_not_ref I R q q').elim
  | _, _, _, .ref q, h => by
    cases h with
    | tup q' r' => exact (tup_not_ref I R q' q).elim
    | frl q' r' => exact (frl_not_ref I R q' q).elim
    | ref q' => rw [R.inj _ _ _ q q']
theorem RDs.fn (I : Inv X pins σ H s) (R : Rl X.K cl β S H) : ∀ {vs : List V} {ds es : List D}, RDs X.K β H vs ds → RDs X.K β H vs es → ds = es
  | _, _, _, .nil, h => by cases h; rfl
  | _, _, _, .cons a b, h => by
    cases h with
    | cons a' b' => rw [RD.fn I R a a', RDs.fn I R b b']
end
end

/-! ### equal to itself -/
theorem eqL_same {f : D → D → Option Bool} (hf : ∀ d b, f d d = some b → b = true) : ∀ (xs : List D) (b : Bool), eqL f xs xs = some b → b = true
  | [], b, h => by cases h; rfl
  | x :: xs, b, h => by
    unfold eqL at h
    split at h
    · rename_i a c h1 h2
      cases h
      rw [hf _ _ h1, eqL_same hf xs _ h2]
      rfl
    · cases h
theorem valD_same {k : Key} {x : D} {r : List (Key × D)} : valD ((k, x) :: r) k = some x := by simp [valD]

theorem eqL_len {f : D → D → Option Bool} : ∀ {xs ys : List D} {b : Bool}, eqL f xs ys = some b → ∃ e : Nat → Bool, (∀ (j : Nat) (x y : D), xs[j]? = some x → ys[j]? = some y → f x y = some (e j)) ∧
    b = ((List.range (min xs.length ys.length)).all e && xs.length == ys.length)
  | [], [], b, h => by cases h; exact ⟨fun _ => true, fun j x y h => by simp at h, by simp⟩
  | [], y :: ys, b, h => by cases h; exact ⟨fun _ => true, fun j x y h => by simp at h, by simp⟩
  | x :: xs, [], b, h => by cases h; exact ⟨fun _ => true, fun j x y _ h => by simp at h, by simp⟩
  | x :: xs, y :: ys, b, h => by
    unfold eqL at h
    split at h
    · rename_i a c h1 h2
      cases h
      obtain ⟨e, he, hb⟩ := eqL_len h2
      refine ⟨fun j => match j with | 0 => a | j + 1 => e j, fun j u v hu hv => ?_, ?_⟩
      · cases j with
        | zero =>
          simp at hu hv
          subst hu hv
          exact h1
        | succ j => exact he j u v (by simpa using hu) (by simpa using hv)
      · rw [hb, List.length_cons, List.length_cons, show min (xs.length + 1) (ys.length + 1) = min xs.length ys.length + 1 by omega, List.range_succ_eq_map, List.all_cons, List.all_map, Bool.and_assoc]
        congr 1
        congr 1
        rw [Bool.eq_iff_iff]
        simp
    · cases h
/-! ### against the semantics -/
/-- no two lists, no two tuples, no dict -/
def leafW : Vw → Vw → Bool
  | .tup _, .tup _ => false
  | .lst _, .lst _ => false
  | .dct _, _ => false
  | _, .dct _ => false
  | .oth, _ => false
  | _, .oth => false
  | _, _ => true
section
variable {X : Cx} {pins : List (Addr × Obj)} {σ : Sl} {H : Hp} {s : Shared} {β : List Addr} {S : So} {cl : Str → Option Addr}
theorem leaf_ok (I : Inv X pins σ H s) {A : Around} (hu : A.units < cLine) {dk : Bool} {f : D → D → Option Bool} {v w : V} {b : Bool} {u1 u2 : Value} (rp : RelV v u1) (rq : RelV w u2) : ∀ (p q : Vw), leafW p q = true → RW X.K β H v p → RW X.K β H w q → eqW dk f p q = some b →
    SeqAt.RcAt A s u1 u2 b ∧ SeqAt.RcNeAt A s u1 u2 (!b) ∧ SeqAt.EqAt A s u1 u2 b := by
  intro p q hl hp hq h
  match p, q with
  | .non, .non =>
    subst hp
    cases rp
    subst hq
    cases rq
    cases h
    exact ⟨SeqAt.RcAt.none_none, SeqAt.RcNeAt.none_none, SeqAt.EqAt.same _⟩
  | .non, .bl a2 =>
    subst hp
    cases rp
    subst hq
    cases rq
    cases h
    exact ⟨SeqAt.RcAt.none_bool a2, SeqAt.RcNeAt.none_bool a2, SeqAt.EqAt.none_bool a2⟩
  | .non, .int a2 =>
    subst hp
    cases rp
    subst hq
    obtain ⟨t2, rfl⟩ := rq
    cases h
    exact ⟨SeqAt.RcAt.none_int a2 t2, SeqAt.RcNeAt.none_int a2 t2, SeqAt.EqAt.none_int a2 t2⟩
  | .non, .str a2 =>
    subst hp
    cases rp
    subst hq
    obtain ⟨t2, rfl⟩ := rq
    cases h
    exact ⟨SeqAt.RcAt.none_str a2 t2, SeqAt.RcNeAt.none_str a2 t2, SeqAt.EqAt.none_str a2 t2⟩
  | .non, .tup a2 =>
    subst hp
    cases rp
    obtain ⟨l2, xs2, rfl, k2, m2⟩ := hq
    cases rq
    obtain ⟨its2, _, g2, _⟩ := I.tuple k2
    cases h
    exact ⟨SeqAt.RcAt.none_tuple g2 hu, SeqAt.RcNeAt.none_tuple g2 hu, SeqAt.EqAt.none_tuple g2 hu⟩
  | .non, .lst a2 =>
    subst hp
    cases rp
    obtain ⟨l2, xs2, rfl, k2, m2⟩ := hq
    cases rq
    obtain ⟨its2, _, g2, _⟩ := I.list k2
    cases h
    exact ⟨SeqAt.RcAt.none_list g2.isList hu, SeqAt.RcNeAt.none_list g2.isList hu, SeqAt.EqAt.none_list g2.isList hu⟩
  | .bl a1, .non =>
    subst hp
    cases rp
    subst hq
    cases rq
    cases h
    exact ⟨SeqAt.RcAt.bool_none a1, SeqAt.RcNeAt.bool_none a1, SeqAt.EqAt.bool_none a1⟩
  | .bl a1, .bl a2 =>
    subst hp
    cases rp
    subst hq
    cases rq
    cases h
    exact ⟨SeqAt.RcAt.bool_bool a1 a2, SeqAt.RcNeAt.bool_bool a1 a2, SeqAt.EqAt.bool_bool a1 a2⟩
  | .bl a1, .int a2 =>
    subst hp
    cases rp
    subst hq
    obtain ⟨t2, rfl⟩ := rq
    cases h
    exact ⟨SeqAt.RcAt.bool_int a1 a2 t2, SeqAt.RcNeAt.bool_int a1 a2 t2, SeqAt.EqAt.bool_int a1 a2 t2⟩
  | .bl a1, .str a2 =>
    subst hp
    cases rp
    subst hq
    obtain ⟨t2, rfl⟩ := rq
    cases h
    exact ⟨SeqAt.RcAt.bool_str a1 a2 t2, SeqAt.RcNeAt.bool_str a1 a2 t2, SeqAt.EqAt.bool_str a1 a2 t2⟩
  | .bl a1, .tup a2 =>
    subst hp
    cases rp
    obtain ⟨l2, xs2, rfl, k2, m2⟩ := hq
    cases rq
    obtain ⟨its2, _, g2, _⟩ := I.tuple k2
    cases h
    exact ⟨SeqAt.RcAt.bool_tuple a1 g2 hu, SeqAt.RcNeAt.bool_tuple a1 g2 hu, SeqAt.EqAt.bool_tuple a1 g2 hu⟩
  | .bl a1, .lst a2 =>
    subst hp
    cases rp
    obtain ⟨l2, xs2, rfl, k2, m2⟩ := hq
    cases rq
    obtain ⟨its2, _, g2, _⟩ := I.list k2
    cases h
    exact ⟨SeqAt.RcAt.bool_list a1 g2.isList hu, SeqAt.RcNeAt.bool_list a1 g2.isList hu, SeqAt.EqAt.bool_list a1 g2.isList hu⟩
  | .int a1, .non =>
    subst hp
    obtain ⟨t1, rfl⟩ := rp
    subst hq
    cases rq
    cases h
    exact ⟨SeqAt.RcAt.int_none a1 t1, SeqAt.RcNeAt.int_none a1 t1, SeqAt.EqAt.int_none a1 t1⟩
  | .int a1, .bl a2 =>
    subst hp
    obtain ⟨t1, rfl⟩ := rp
    subst hq
    cases rq
    cases h
    exact ⟨SeqAt.RcAt.int_bool a1 t1 a2, SeqAt.RcNeAt.int_bool a1 t1 a2, SeqAt.EqAt.int_bool a1 t1 a2⟩
  | .int a1, .int a2 =>
    subst hp
    obtain ⟨t1, rfl⟩ := rp
    subst hq
    obtain ⟨t2, rfl⟩ := rq
    cases h
    exact ⟨SeqAt.RcAt.int_int a1 t1 a2 t2, SeqAt.RcNeAt.int_int a1 t1 a2 t2, SeqAt.EqAt.int_int a1 t1 a2 t2⟩
  | .int a1, .str a2 =>
    subst hp
    obtain ⟨t1, rfl⟩ := rp
    subst hq
    obtain ⟨t2, rfl⟩ := rq
    cases h
    exact ⟨SeqAt.RcAt.int_str a1 t1 a2 t2, SeqAt.RcNeAt.int_str a1 t1 a2 t2, SeqAt.EqAt.int_str a1 t1 a2 t2⟩
  | .int a1, .tup a2 =>
    subst hp
    obtain ⟨t1, rfl⟩ := rp
    obtain ⟨l2, xs2, rfl, k2, m2⟩ := hq
    cases rq
    obtain ⟨its2, _, g2, _⟩ := I.tuple k2
    cases h
    exact ⟨SeqAt.RcAt.int_tuple a1 t1 g2 hu, SeqAt.RcNeAt.int_tuple a1 t1 g2 hu, SeqAt.EqAt.int_tuple a1 t1 g2 hu⟩
  | .int a1, .lst a2 =>
    subst hp
    obtain ⟨t1, rfl⟩ := rp
    obtain ⟨l2, xs2, rfl, k2, m2⟩ := hq
    cases rq
    obtain ⟨its2, _, g2, _⟩ := I.list k2
    cases h
    exact ⟨SeqAt.RcAt.int_list a1 t1 g2.isList hu, SeqAt.RcNeAt.int_list a1 t1 g2.isList hu, SeqAt.EqAt.int_list a1 t1 g2.isList hu⟩
  | .str a1, .non =>
    subst hp
    obtain ⟨t1, rfl⟩ := rp
    subst hq
    cases rq
    cases h
    exact ⟨SeqAt.RcAt.str_none a1 t1, SeqAt.RcNeAt.str_none a1 t1, SeqAt.EqAt.str_none a1 t1⟩
  | .str a1, .bl a2 =>
    subst hp
    obtain ⟨t1, rfl⟩ := rp
    subst hq
    cases rq
    cases h
    exact ⟨SeqAt.RcAt.str_bool a1 t1 a2, SeqAt.RcNeAt.str_bool a1 t1 a2, SeqAt.EqAt.str_bool a1 t1 a2⟩
  | .str a1, .int a2 =>
    subst hp
    obtain ⟨t1, rfl⟩ := rp
    subst hq
    obtain ⟨t2, rfl⟩ := rq
    cases h
    exact ⟨SeqAt.RcAt.str_int a1 t1 a2 t2, SeqAt.RcNeAt.str_int a1 t1 a2 t2, SeqAt.EqAt.str_int a1 t1 a2 t2⟩
  | .str a1, .str a2 =>
    subst hp
    obtain ⟨t1, rfl⟩ := rp
    subst hq
    obtain ⟨t2, rfl⟩ := rq
    cases h
    exact ⟨SeqAt.RcAt.str_str a1 t1 a2 t2, SeqAt.RcNeAt.str_str a1 t1 a2 t2, SeqAt.EqAt.str_str a1 t1 a2 t2⟩
  | .str a1, .tup a2 =>
    subst hp
    obtain ⟨t1, rfl⟩ := rp
    obtain ⟨l2, xs2, rfl, k2, m2⟩ := hq
    cases rq
    obtain ⟨its2, _, g2, _⟩ := I.tuple k2
    cases h
    exact ⟨SeqAt.RcAt.str_tuple a1 t1 g2 hu, SeqAt.RcNeAt.str_tuple a1 t1 g2 hu, SeqAt.EqAt.str_tuple a1 t1 g2 hu⟩
  | .str a1, .lst a2 =>
    subst hp
    obtain ⟨t1, rfl⟩ := rp
    obtain ⟨l2, xs2, rfl, k2, m2⟩ := hq
    cases rq
    obtain ⟨its2, _, g2, _⟩ := I.list k2
    cases h
    exact ⟨SeqAt.RcAt.str_list a1 t1 g2.isList hu, SeqAt.RcNeAt.str_list a1 t1 g2.isList hu, SeqAt.EqAt.str_list a1 t1 g2.isList hu⟩
  | .tup a1, .non =>
    obtain ⟨l1, xs1, rfl, k1, m1⟩ := hp
    cases rp
    obtain ⟨its1, _, g1, _⟩ := I.tuple k1
    subst hq
    cases rq
    cases h
    exact ⟨SeqAt.RcAt.tuple_none g1 hu, SeqAt.RcNeAt.tuple_none g1 hu, SeqAt.EqAt.tuple_none g1 hu⟩
  | .tup a1, .bl a2 =>
    obtain ⟨l1, xs1, rfl, k1, m1⟩ := hp
    cases rp
    obtain ⟨its1, _, g1, _⟩ := I.tuple k1
    subst hq
    cases rq
    cases h
    exact ⟨SeqAt.RcAt.tuple_bool a2 g1 hu, SeqAt.RcNeAt.tuple_bool a2 g1 hu, SeqAt.EqAt.tuple_bool a2 g1 hu⟩
  | .tup a1, .int a2 =>
    obtain ⟨l1, xs1, rfl, k1, m1⟩ := hp
    cases rp
    obtain ⟨its1, _, g1, _⟩ := I.tuple k1
    subst hq
    obtain ⟨t2, rfl⟩ := rq
    cases h
    exact ⟨SeqAt.RcAt.tuple_int a2 t2 g1 hu, SeqAt.RcNeAt.tuple_int a2 t2 g1 hu, SeqAt.EqAt.tuple_int a2 t2 g1 hu⟩
  | .tup a1, .str a2 =>
    obtain ⟨l1, xs1, rfl, k1, m1⟩ := hp
    cases rp
    obtain ⟨its1, _, g1, _⟩ := I.tuple k1
    subst hq
    obtain ⟨t2, rfl⟩ := rq
    cases h
    exact ⟨SeqAt.RcAt.tuple_str a2 t2 g1 hu, SeqAt.RcNeAt.tuple_str a2 t2 g1 hu, SeqAt.EqAt.tuple_str a2 t2 g1 hu⟩
  | .tup a1, .lst a2 =>
    obtain ⟨l1, xs1, rfl, k1, m1⟩ := hp
    cases rp
    obtain ⟨its1, _, g1, _⟩ := I.tuple k1
    obtain ⟨l2, xs2, rfl, k2, m2⟩ := hq
    cases rq
    obtain ⟨its2, _, g2, _⟩ := I.list k2
    cases h
    exact ⟨SeqAt.RcAt.tuple_list g1 g2.isList hu, SeqAt.RcNeAt.tuple_list g1 g2.isList hu, SeqAt.EqAt.tuple_list g1 g2.isList hu⟩
  | .lst a1, .non =>
    obtain ⟨l1, xs1, rfl, k1, m1⟩ := hp
    cases rp
    obtain ⟨its1, _, g1, _⟩ := I.list k1
    subst hq
    cases rq
    cases h
    exact ⟨SeqAt.RcAt.list_none g1.isList hu, SeqAt.RcNeAt.list_none g1.isList hu, SeqAt.EqAt.list_none g1.isList hu⟩
  | .lst a1, .bl a2 =>
    obtain ⟨l1, xs1, rfl, k1, m1⟩ := hp
    cases rp
    obtain ⟨its1, _, g1, _⟩ := I.list k1
    subst hq
    cases rq
    cases h
    exact ⟨SeqAt.RcAt.list_bool a2 g1.isList hu, SeqAt.RcNeAt.list_bool a2 g1.isList hu, SeqAt.EqAt.list_bool a2 g1.isList hu⟩
  | .lst a1, .int a2 =>
    obtain ⟨l1, xs1, rfl, k1, m1⟩ := hp
    cases rp
    obtain ⟨its1, _, g1, _⟩ := I.list k1
    subst hq
    obtain ⟨t2, rfl⟩ := rq
    cases h
    exact ⟨SeqAt.RcAt.list_int a2 t2 g1.isList hu, SeqAt.RcNeAt.list_int a2 t2 g1.isList hu, SeqAt.EqAt.list_int a2 t2 g1.isList hu⟩
  | .lst a1, .str a2 =>
    obtain ⟨l1, xs1, rfl, k1, m1⟩ := hp
    cases rp
    obtain ⟨its1, _, g1, _⟩ := I.list k1
    subst hq
    obtain ⟨t2, rfl⟩ := rq
    cases h
    exact ⟨SeqAt.RcAt.list_str a2 t2 g1.isList hu, SeqAt.RcNeAt.list_str a2 t2 g1.isList hu, SeqAt.EqAt.list_str a2 t2 g1.isList hu⟩
  | .lst a1, .tup a2 =>
    obtain ⟨l1, xs1, rfl, k1, m1⟩ := hp
    cases rp
    obtain ⟨its1, _, g1, _⟩ := I.list k1
    obtain ⟨l2, xs2, rfl, k2, m2⟩ := hq
    cases rq
    obtain ⟨its2, _, g2, _⟩ := I.tuple k2
    cases h
    exact ⟨SeqAt.RcAt.list_tuple g1.isList g2 hu, SeqAt.RcNeAt.list_tuple g1.isList g2 hu, SeqAt.EqAt.list_tuple g1.isList g2 hu⟩
  | .tup _, .tup _ => exact absurd hl Bool.false_ne_true
  | .lst _, .lst _ => exact absurd hl Bool.false_ne_true
  | .dct _, .non => exact absurd hl Bool.false_ne_true
  | .dct _, .bl _ => exact absurd hl Bool.false_ne_true
  | .dct _, .int _ => exact absurd hl Bool.false_ne_true
  | .dct _, .str _ => exact absurd hl Bool.false_ne_true
  | .dct _, .tup _ => exact absurd hl Bool.false_ne_true
  | .dct _, .lst _ => exact absurd hl Bool.false_ne_true
  | .dct _, .dct _ => exact absurd hl Bool.false_ne_true
  | .dct _, .oth => exact absurd hl Bool.false_ne_true
  | .non, .dct _ => exact absurd hl Bool.false_ne_true
  | .bl _, .dct _ => exact absurd hl Bool.false_ne_true
  | .int _, .dct _ => exact absurd hl Bool.false_ne_true
  | .str _, .dct _ => exact absurd hl Bool.false_ne_true
  | .tup _, .dct _ => exact absurd hl Bool.false_ne_true
  | .lst _, .dct _ => exact absurd hl Bool.false_ne_true
  | .oth, .non => exact absurd hl Bool.false_ne_true
  | .oth, .bl _ => exact absurd hl Bool.false_ne_true
  | .oth, .int _ => exact absurd hl Bool.false_ne_true
  | .oth, .str _ => exact absurd hl Bool.false_ne_true
  | .oth, .tup _ => exact absurd hl Bool.false_ne_true
  | .oth, .lst _ => exact absurd hl Bool.false_ne_true
  | .oth, .oth => exact absurd hl Bool.false_ne_true
  | .non, .oth => exact absurd hl Bool.false_ne_true
  | .bl _, .oth => exact absurd hl Bool.false_ne_true
  | .int _, .oth => exact absurd hl Bool.false_ne_true
  | .str _, .oth => exact absurd hl Bool.false_ne_true
  | .tup _, .oth => exact absurd hl Bool.false_ne_true
  | .lst _, .oth => exact absurd hl Bool.false_ne_true
  | .oth, .dct _ => exact absurd hl Bool.false_ne_true

theorem items_at {K : PySem.W.Frag} {H : Hp} {β : List Addr} {xs : List V} {its : List Value} {ds : List D} (r : Vals xs its) (m : RDs K β H xs ds) : its.toArray.size = ds.length ∧ ∀ j (h : j < its.toArray.size), ∃ v d, ds[j]? = some d ∧ RD K β H v d ∧ RelV v its.toArray[j] := by
  have h1 := r.length
  have h2 := m.length
  refine ⟨by simp; omega, fun j h => ?_⟩
  have hj : j < its.length := by simpa using h
  obtain ⟨v, q1, q2⟩ := m.get (i := j) (d := ds[j]'(by omega)) (List.getElem?_eq_getElem (by omega))
  obtain ⟨u, q3, q4⟩ := r.get q1
  refine ⟨v, _, List.getElem?_eq_getElem (by omega), q2, ?_⟩
  have e : its[j]? = some its[j] := List.getElem?_eq_getElem hj
  rw [e] at q3
  cases q3
  simpa using q4
theorem eqW_same {dk : Bool} {f : D → D → Option Bool} (hf : ∀ d b, f d d = some b → b = true) : ∀ (p : Vw) (b : Bool), (∀ ks, p ≠ .dct ks) → eqW dk f p p = some b → b = true := by
  intro p b hp h
  cases p with
  | non => cases h; rfl
  | bl a => cases h; simp
  | int a => cases h; simp
  | str a => cases h; simp
  | tup ds => exact eqL_same hf ds b h
  | lst ds => exact eqL_same hf ds b h
  | dct ks => exact absurd rfl (hp ks)
  | oth => cases h
theorem eqB_same {dk : Bool} {S : So} : ∀ (n : Nat) (d : D) (b : Bool), eqB dk S n d d = some b → b = true
  | 0, d, b, h => by cases h
  | n + 1, d, b, h => by
    cases d with
    | ref m =>
      have e : sameRef (.ref m) (.ref m) = true := by simp [sameRef]
      unfold eqB at h
      rw [if_pos e] at h
      cases h
      rfl
    | non => exact eqW_same (dk := dk) (f := eqB dk S n) (eqB_same n) .non b (fun _ z => nomatch z) h
    | bl x => exact eqW_same (dk := dk) (f := eqB dk S n) (eqB_same n) (.bl x) b (fun _ z => nomatch z) h
    | int x => exact eqW_same (dk := dk) (f := eqB dk S n) (eqB_same n) (.int x) b (fun _ z => nomatch z) h
    | str x => exact eqW_same (dk := dk) (f := eqB dk S n) (eqB_same n) (.str x) b (fun _ z => nomatch z) h
    | tup x => exact eqW_same (dk := dk) (f := eqB dk S n) (eqB_same n) (.tup x) b (fun _ z => nomatch z) h
    | frl x => exact eqW_same (dk := dk) (f := eqB dk S n) (eqB_same n) (.lst x) b (fun _ z => nomatch z) h
theorem all_congr {n m : Nat} {e : Nat → Bool} (h : n = m) : (List.range n).all e = (List.range m).all e := by rw [h]

/-- the values of two dicts -/
theorem eqK_len {f : D → D → Option Bool} {ls : List (Key × D)} : ∀ {ks : List (Key × D)} {b : Bool}, (ks.map (·.1)).Nodup → eqK f ls ks = some b → ∃ e : Key → Bool, (∀ k x y, (k, x) ∈ ks → valD ls k = some y → f x y = some (e k)) ∧
    b = ks.all fun p => (valD ls p.1).isSome && e p.1
  | [], b, _, h => by cases h; exact ⟨fun _ => true, fun k x y h => by simp at h, by simp⟩
  | (k, x) :: r, b, hn, h => by
    have hn' : (r.map (·.1)).Nodup := (List.nodup_cons.mp hn).2
    have hk : k ∉ r.map (·.1) := (List.nodup_cons.mp hn).1
    unfold eqK at h
    cases hv : valD ls k with
    | none =>
      rw [hv] at h
      cases hr : eqK f ls r with
      | none => rw [hr] at h; cases h
      | some c =>
        rw [hr] at h
        cases h
        obtain ⟨e, he, hb⟩ := eqK_len hn' hr
        refine ⟨e, fun k' x' y' hm hy => ?_, by simp [hv]⟩
        rcases List.mem_cons.mp hm with z | z
        · cases z
          rw [hv] at hy
          cases hy
        · exact he k' x' y' z hy
    | some y =>
      rw [hv] at h
      simp only at h
      split at h
      · rename_i a c h1 h2
        cases h
        obtain ⟨e, he, hb⟩ := eqK_len hn' h2
        refine ⟨fun k' => if k' = k then a else e k', fun k' x' y' hm hy => ?_, ?_⟩
        · rcases List.mem_cons.mp hm with z | z
          · cases z
            rw [hv] at hy
            cases hy
            show f x y = some (if k = k then a else e k)
            rw [if_pos rfl]
            exact h1
          · have : k' ≠ k := fun q => hk (q ▸ List.mem_map_of_mem (f := (·.1)) z)
            show f x' y' = some (if k' = k then a else e k')
            rw [if_neg this]
            exact he k' x' y' z hy
        · rw [List.all_cons, hv, hb]
          simp only [Option.isSome_some, Bool.true_and, if_pos]
          congr 1
          rw [Bool.eq_iff_iff, List.all_eq_true, List.all_eq_true]
          constructor
          · intro q p hp
            have : p.1 ≠ k := fun z => hk (z ▸ List.mem_map_of_mem (f := (·.1)) hp)
            rw [if_neg this]
            exact q p hp
          · intro q p hp
            have : p.1 ≠ k := fun z => hk (z ▸ List.mem_map_of_mem (f := (·.1)) hp)
            have q' := q p hp
            rw [if_neg this] at q'
            exact q'
      · cases h
/-- the three sights of a dict -/
theorem kv3 {K : PySem.W.Frag} {H : Hp} {β : List Addr} {ys : List (Key × V)} {kvs : List (Key × D)} (m : RPs K β H ys kvs) {vs : List (Key × Value)} (r : KV ys vs) : vs.length = kvs.length ∧ vs.map (·.1) = kvs.map (·.1) ∧
    (∀ (k : Key) (u : Value), (k, u) ∈ vs → ∃ v d, (k, d) ∈ kvs ∧ RD K β H v d ∧ RelV v u) ∧ ∀ k : Key, (valueAt vs k = none ∧ valD kvs k = none) ∨ ∃ u v d, valueAt vs k = some u ∧ valD kvs k = some d ∧ RD K β H v d ∧ RelV v u := by
  unfold RPs at m
  unfold KV at r
  induction r generalizing kvs with
  | nil =>
    cases m
    exact ⟨rfl, rfl, fun k u h => by simp at h, fun k => .inl ⟨rfl, rfl⟩⟩
  | @cons p q ps qs a b ih =>
    cases m with
    | @cons _ c _ cs a' b' =>
      obtain ⟨h1, h2, h3, h4⟩ := ih b'
      obtain ⟨k0, u0⟩ := q
      obtain ⟨k1, v1⟩ := p
      obtain ⟨k2, d2⟩ := c
      obtain ⟨e1, e2⟩ := a
      obtain ⟨e3, e4⟩ := a'
      simp only at e1 e2 e3 e4
      subst e1 e3
      refine ⟨by simp [h1], by simp [h2], fun k u hm => ?_, fun k => ?_⟩
      · rcases List.mem_cons.mp hm with z | z
        · cases z
          exact ⟨_, _, List.mem_cons_self, e4, e2⟩
        · obtain ⟨v, d, q1, q2, q3⟩ := h3 k u z
          exact ⟨v, d, List.mem_cons_of_mem _ q1, q2, q3⟩
      · by_cases hk : k1 = k
        · subst hk
          exact .inr ⟨u0, v1, d2, by simp [valueAt], by simp [valD], e4, e2⟩
        · have q1 : valueAt ((k1, u0) :: qs) k = valueAt qs k := by simp [valueAt, List.find?_cons, hk]
          have q2 : valD ((k1, d2) :: cs) k = valD cs k := by simp [valD, List.find?_cons, hk]
          rw [q1, q2]
          exact h4 k
theorem nodup_of {X : Cx} {pins : List (Addr × Obj)} {σ : Sl} {H : Hp} {s : Shared} (I : Inv X pins σ H s) {a : Addr} {ys : List (Key × V)} (h : H a = some (.dK ys)) : ∃ vs, (a == sysModules) = false ∧ KV ys vs ∧ s.heap.DictOf (mixKind X.prog X.w) a vs ∧ (vs.map (·.1)).Nodup := by
  obtain ⟨_, ha, vs, kv, d⟩ := dk_of I.hok h
  obtain ⟨_, _, _, _, _, _, _, _, nd⟩ := id d
  exact ⟨vs, ha, kv, d, nd⟩
theorem eqB_ok (I : Inv X pins σ H s) (R : Rl X.K cl β S H) : ∀ (n : Nat) {d e : D} {b : Bool} {v w : V} {u1 u2 : Value}, eqB true S n d e = some b → RD X.K β H v d → RD X.K β H w e → RelV v u1 → RelV w u2 → PySem.W.EqTree X.prog X.w s n u1 u2 b
  | 0, _, _, _, _, _, _, _, h, _, _, _, _ => by cases h
  | n + 1, d, e, b, v, w, u1, u2, h, hv, hw, r1, r2 => by
    unfold eqB at h
    split at h
    · rename_i hs
      cases h
      cases d <;> cases e <;> first | exact absurd hs Bool.false_ne_true | skip
      rename_i m k
      have : m = k := by simpa [sameRef] using hs
      subst this
      cases hv with
      | ref q1 =>
        cases hw with
        | ref q2 =>
          rw [q1] at q2
          cases q2
          cases r1
          cases r2
          exact .same
    · rename_i hs
      have wp := hv.vw R
      have wq := hw.vw R
      by_cases hl : leafW (vw S d) (vw S e) = true
      · exact .leaf fun A hu => (leaf_ok I (by omega) r1 r2 _ _ hl wp wq h).2.2
      · generalize hp : vw S d = p at *
        generalize hq : vw S e = q at *
        cases p with
        | tup ds =>
          cases q with
          | tup es =>
            obtain ⟨l1, xs1, rfl, k1, m1⟩ := wp
            obtain ⟨l2, xs2, rfl, k2, m2⟩ := wq
            cases r1
            cases r2
            by_cases hll : l1 = l2
            · subst hll
              have := I.tuple_inj k1 k2
              subst this
              have := RDs.fn I R m1 m2
              subst this
              have hb : b = true := eqL_same (fun d b => eqB_same n d b) _ _ h
              rw [hb]
              exact .same
            · obtain ⟨its1, v1, g1, _⟩ := I.tuple k1
              obtain ⟨its2, v2, g2, _⟩ := I.tuple k2
              obtain ⟨z1, i1⟩ := items_at v1 m1
              obtain ⟨z2, i2⟩ := items_at v2 m2
              obtain ⟨f, hf, hb⟩ := eqL_len h
              rw [hb, ← z1, ← z2]
              refine .tuples hll g1 g2 fun j h1 h2 => ?_
              obtain ⟨v, d', q1, q2, q3⟩ := i1 j h1
              obtain ⟨v', d'', q1', q2', q3'⟩ := i2 j h2
              exact eqB_ok I R n (hf j d' d'' q1 q1') q2 q2' q3 q3'
          | _ => first | exact absurd rfl hl | cases h
        | lst ds =>
          cases q with
          | lst es =>
            obtain ⟨l1, xs1, rfl, k1, m1⟩ := wp
            obtain ⟨l2, xs2, rfl, k2, m2⟩ := wq
            cases r1
            cases r2
            by_cases hll : l1 = l2
            · subst hll
              have := I.list_inj k1 k2
              subst this
              have := RDs.fn I R m1 m2
              subst this
              have hb : b = true := eqL_same (fun d b => eqB_same n d b) _ _ h
              rw [hb]
              exact .same
            · obtain ⟨its1, v1, g1, _⟩ := I.list k1
              obtain ⟨its2, v2, g2, _⟩ := I.list k2
              obtain ⟨z1, i1⟩ := items_at v1 m1
              obtain ⟨z2, i2⟩ := items_at v2 m2
              obtain ⟨f, hf, hb⟩ := eqL_len h
              by_cases hz : its1.toArray.size = its2.toArray.size
              · have e1 : b = (List.range its1.toArray.size).all f := by
                  rw [hb, ← z1, ← z2, hz]
                  simp
                rw [e1]
                refine .lists hll g1.isList g2.isList hz fun j h1 h2 => ?_
                obtain ⟨v, d', q1, q2, q3⟩ := i1 j h1
                obtain ⟨v', d'', q1', q2', q3'⟩ := i2 j h2
                exact eqB_ok I R n (hf j d' d'' q1 q1') q2 q2' q3 q3'
              · have e1 : b = false := by
                  rw [hb, ← z1, ← z2]
                  have : (its1.toArray.size == its2.toArray.size) = false := beq_eq_false_iff_ne.mpr hz
                  rw [this, Bool.and_false]
                rw [e1]
                exact .listsLen hll g1.isList g2.isList (bne_iff_ne.mpr hz)
          | _ => first | exact absurd rfl hl | cases h
        | dct ks =>
          cases q with
          | dct ls =>
            obtain ⟨l1, ys1, rfl, k1, m1⟩ := wp
            obtain ⟨l2, ys2, rfl, k2, m2⟩ := wq
            cases r1
            cases r2
            have hll : l1 ≠ l2 := fun z => by
              subst z
              have : d = e := RD.fn I R hv hw
              subst this
              cases d <;> first | (cases hp; done) | skip
              rename_i m
              exact hs (by simp [sameRef])
            obtain ⟨vs1, a1, c1, d1, n1⟩ := nodup_of I k1
            obtain ⟨vs2, a2, c2, d2, n2⟩ := nodup_of I k2
            obtain ⟨b1, b2, b3, b4⟩ := kv3 m1 c1
            obtain ⟨b1', b2', b3', b4'⟩ := kv3 m2 c2
            have h' : (eqK (eqB true S n) ls ks).map (fun b => (ks.length == ls.length && b)) = some b := h
            cases hk : eqK (eqB true S n) ls ks with
            | none => rw [hk] at h'; cases h'
            | some c =>
              rw [hk] at h'
              cases h'
              obtain ⟨f, hf, hc⟩ := eqK_len (by rw [← b2]; exact n1) hk
              have same : ∀ k : Key, (valueAt vs2 k).isSome = (valD ls k).isSome := fun k => by
                rcases b4' k with ⟨q1, q2⟩ | ⟨u, v, d, q1, q2, _⟩ <;> rw [q1, q2] <;> rfl
              have eb : (ks.length == ls.length && c) = (vs1.length == vs2.length && vs1.all fun p => (valueAt vs2 p.1).isSome && f p.1) := by
                rw [b1, b1', hc]
                congr 1
                have e1 : (ks.all fun p => (valD ls p.1).isSome && f p.1) = (ks.map (·.1)).all fun k => (valD ls k).isSome && f k := by rw [List.all_map]; rfl
                have e2 : (vs1.all fun p => (valueAt vs2 p.1).isSome && f p.1) = (vs1.map (·.1)).all fun k => (valueAt vs2 k).isSome && f k := by rw [List.all_map]; rfl
                rw [e1, e2, b2]
                congr 1
                funext k
                rw [same k]
              show PySem.W.EqTree X.prog X.w s (n + 1) _ _ (ks.length == ls.length && c)
              rw [eb]
              refine .dicts hll a1 a2 d1 d2 fun k u y hm hy => ?_
              obtain ⟨v, d', q1, q2, q3⟩ := b3 k u hm
              rcases b4' k with ⟨q4, _⟩ | ⟨u', v', d'', q4, q5, q6, q7⟩
              · rw [q4] at hy
                cases hy
              · rw [q4] at hy
                cases hy
                exact eqB_ok I R n (hf k d' d'' q1 q5) q2 q6 q3 q7
          | _ => first | exact absurd rfl hl | cases h
        | _ => cases q <;> first | exact absurd rfl hl | cases h
theorem eqP_ok (I : Inv X pins σ H s) (R : Rl X.K cl β S H) : ∀ (n : Nat) {d e : D} {b : Bool} {v w : V} {u1 u2 : Value} {A : Around}, A.units + n < cLine → eqB false S n d e = some b → RD X.K β H v d → RD X.K β H w e → RelV v u1 → RelV w u2 → SeqAt.EqAt A s u1 u2 b
  | 0, _, _, _, _, _, _, _, _, _, h, _, _, _, _ => by cases h
  | n + 1, d, e, b, v, w, u1, u2, A, hu, h, hv, hw, r1, r2 => by
    unfold eqB at h
    split at h
    · rename_i hs
      cases h
      cases d <;> cases e <;> first | exact absurd hs Bool.false_ne_true | skip
      rename_i m k
      have : m = k := by simpa [sameRef] using hs
      subst this
      cases hv with
      | ref q1 =>
        cases hw with
        | ref q2 =>
          rw [q1] at q2
          cases q2
          cases r1
          cases r2
          exact SeqAt.EqAt.same _
    · rename_i hs
      have wp := hv.vw R
      have wq := hw.vw R
      by_cases hl : leafW (vw S d) (vw S e) = true
      · exact (leaf_ok I (by omega) r1 r2 _ _ hl wp wq h).2.2
      · generalize hp : vw S d = p at *
        generalize hq : vw S e = q at *
        cases p with
        | tup ds =>
          cases q with
          | tup es =>
            obtain ⟨l1, xs1, rfl, k1, m1⟩ := wp
            obtain ⟨l2, xs2, rfl, k2, m2⟩ := wq
            cases r1
            cases r2
            by_cases hll : l1 = l2
            · subst hll
              have := I.tuple_inj k1 k2
              subst this
              have := RDs.fn I R m1 m2
              subst this
              have hb : b = true := eqL_same (fun d b => eqB_same n d b) _ _ h
              rw [hb]
              exact SeqAt.EqAt.same _
            · obtain ⟨its1, v1, g1, _⟩ := I.tuple k1
              obtain ⟨its2, v2, g2, _⟩ := I.tuple k2
              obtain ⟨z1, i1⟩ := items_at v1 m1
              obtain ⟨z2, i2⟩ := items_at v2 m2
              obtain ⟨f, hf, hb⟩ := eqL_len h
              rw [hb, ← z1, ← z2]
              refine SeqAt.EqAt.of_refs hll (SeqAt.RcAt.tuples g1 g2 (by omega) fun j h1 h2 => ?_)
              obtain ⟨v, d', q1, q2, q3⟩ := i1 j h1
              obtain ⟨v', d'', q1', q2', q3'⟩ := i2 j h2
              exact eqP_ok I R n (by show A.units + 1 + n < cLine; omega) (hf j d' d'' q1 q1') q2 q2' q3 q3'
          | _ => first | exact absurd rfl hl | cases h
        | lst ds =>
          cases q with
          | lst es =>
            obtain ⟨l1, xs1, rfl, k1, m1⟩ := wp
            obtain ⟨l2, xs2, rfl, k2, m2⟩ := wq
            cases r1
            cases r2
            by_cases hll : l1 = l2
            · subst hll
              have := I.list_inj k1 k2
              subst this
              have := RDs.fn I R m1 m2
              subst this
              have hb : b = true := eqL_same (fun d b => eqB_same n d b) _ _ h
              rw [hb]
              exact SeqAt.EqAt.same _
            · obtain ⟨its1, v1, g1, _⟩ := I.list k1
              obtain ⟨its2, v2, g2, _⟩ := I.list k2
              obtain ⟨z1, i1⟩ := items_at v1 m1
              obtain ⟨z2, i2⟩ := items_at v2 m2
              obtain ⟨f, hf, hb⟩ := eqL_len h
              by_cases hz : its1.toArray.size = its2.toArray.size
              · have e1 : b = (List.range its1.toArray.size).all f := by
                  rw [hb, ← z1, ← z2, hz]
                  simp
                rw [e1]
                refine SeqAt.EqAt.of_refs hll (SeqAt.RcAt.lists g1.isList g2.isList hz (by omega) fun j h1 h2 => ?_)
                obtain ⟨v, d', q1, q2, q3⟩ := i1 j h1
                obtain ⟨v', d'', q1', q2', q3'⟩ := i2 j h2
                exact eqP_ok I R n (by show A.units + 1 + n < cLine; omega) (hf j d' d'' q1 q1') q2 q2' q3 q3'
              · have e1 : b = false := by
                  rw [hb, ← z1, ← z2]
                  have : (its1.toArray.size == its2.toArray.size) = false := beq_eq_false_iff_ne.mpr hz
                  rw [this, Bool.and_false]
                rw [e1]
                exact SeqAt.EqAt.of_refs hll (SeqAt.RcAt.lists_lengths g1.isList g2.isList (bne_iff_ne.mpr hz) (by omega))
          | _ => first | exact absurd rfl hl | cases h
        | dct ks => cases q <;> cases h
        | _ => cases q <;> first | exact absurd rfl hl | cases h
end
def rEqM (K : PySem.W.Frag) (cl : Str → Option Addr) : R2 := fun x y H Q => ∃ (β : List Addr) (S : So) (d e : D) (b : Bool), Rl K cl β S H ∧ RD K β H x d ∧ RD K β H y e ∧ eqO S d e = some b ∧ Q (.bl b) H
def rNeM (K : PySem.W.Frag) (cl : Str → Option Addr) : R2 := fun x y H Q => ∃ (β : List Addr) (S : So) (d e : D) (b : Bool), Rl K cl β S H ∧ RD K β H x d ∧ RD K β H y e ∧ neO S d e = some b ∧ Q (.bl (!b)) H
theorem oo_eq {X : Cx} {cl : Str → Option Addr} (hu : X.A.units + 64 < cLine) : OpR X (compareOp .Eq) (rEqM X.K cl) := by
  intro pins s σ H v w u1 u2 Q I r1 r2 hh
  obtain ⟨β, S, d, e, b, R, hv, hw, h, q⟩ := hh
  have post : EP X pins σ Q (.bool b) s := ⟨.bl b, H, I, rfl, q⟩
  have wp := hv.vw R
  have wq := hw.vw R
  unfold eqO at h
  by_cases hl : leafW (vw S d) (vw S e) = true
  · exact (leaf_ok I (by omega) r1 r2 _ _ hl wp wq h).1 _ _ _ _ post
  · generalize hp : vw S d = p at *
    generalize hq : vw S e = q at *
    cases p with
    | tup ds =>
      cases q with
      | tup es =>
        obtain ⟨l1, xs1, rfl, k1, m1⟩ := wp
        obtain ⟨l2, xs2, rfl, k2, m2⟩ := wq
        cases r1
        cases r2
        obtain ⟨its1, v1, g1, _⟩ := I.tuple k1
        obtain ⟨its2, v2, g2, _⟩ := I.tuple k2
        obtain ⟨z1, i1⟩ := items_at v1 m1
        obtain ⟨z2, i2⟩ := items_at v2 m2
        obtain ⟨f, hf, hb⟩ := eqL_len h
        rw [hb, ← z1, ← z2] at post
        refine PySem.W.eq_tuplesT (n := 40) g1 g2 (fun j h1 h2 => ?_) (by omega) post
        obtain ⟨v, d', q1, q2, q3⟩ := i1 j h1
        obtain ⟨v', d'', q1', q2', q3'⟩ := i2 j h2
        exact eqB_ok I R 40 (hf j d' d'' q1 q1') q2 q2' q3 q3'
      | _ => first | exact absurd rfl hl | cases h
    | lst ds =>
      cases q with
      | lst es =>
        obtain ⟨l1, xs1, rfl, k1, m1⟩ := wp
        obtain ⟨l2, xs2, rfl, k2, m2⟩ := wq
        cases r1
        cases r2
        obtain ⟨its1, v1, g1, _⟩ := I.list k1
        obtain ⟨its2, v2, g2, _⟩ := I.list k2
        obtain ⟨z1, i1⟩ := items_at v1 m1
        obtain ⟨z2, i2⟩ := items_at v2 m2
        obtain ⟨f, hf, hb⟩ := eqL_len h
        by_cases hz : its1.toArray.size = its2.toArray.size
        · have e1 : b = (List.range its1.toArray.size).all f := by
            rw [hb, ← z1, ← z2, hz]
            simp
          rw [e1] at post
          refine PySem.W.eq_listsT (n := 40) g1.isList g2.isList hz (fun j h1 h2 => ?_) (by omega) post
          obtain ⟨v, d', q1, q2, q3⟩ := i1 j h1
          obtain ⟨v', d'', q1', q2', q3'⟩ := i2 j h2
          exact eqB_ok I R 40 (hf j d' d'' q1 q1') q2 q2' q3 q3'
        · have e1 : b = false := by
            rw [hb, ← z1, ← z2]
            have : (its1.toArray.size == its2.toArray.size) = false := beq_eq_false_iff_ne.mpr hz
            rw [this, Bool.and_false]
          rw [e1] at post
          exact SeqAt.RcAt.lists_lengths g1.isList g2.isList (bne_iff_ne.mpr hz) (by omega) _ _ _ _ post
      | _ => first | exact absurd rfl hl | cases h
    | dct ks =>
      cases q with
      | dct ls =>
        obtain ⟨l1, ys1, rfl, k1, m1⟩ := wp
        obtain ⟨l2, ys2, rfl, k2, m2⟩ := wq
        cases r1
        cases r2
        obtain ⟨vs1, a1, c1, d1, n1⟩ := nodup_of I k1
        obtain ⟨vs2, a2, c2, d2, n2⟩ := nodup_of I k2
        obtain ⟨b1, b2, b3, b4⟩ := kv3 m1 c1
        obtain ⟨b1', b2', b3', b4'⟩ := kv3 m2 c2
        have h' : (eqK (eqB true S 40) ls ks).map (fun b => (ks.length == ls.length && b)) = some b := h
        cases hk : eqK (eqB true S 40) ls ks with
        | none => rw [hk] at h'; cases h'
        | some c =>
          rw [hk] at h'
          cases h'
          obtain ⟨f, hf, hc⟩ := eqK_len (by rw [← b2]; exact n1) hk
          have same : ∀ k : Key, (valueAt vs2 k).isSome = (valD ls k).isSome := fun k => by
            rcases b4' k with ⟨q1, q2⟩ | ⟨u, v, d, q1, q2, _⟩ <;> rw [q1, q2] <;> rfl
          have eb : (ks.length == ls.length && c) = (vs1.length == vs2.length && vs1.all fun p => (valueAt vs2 p.1).isSome && f p.1) := by
            rw [b1, b1', hc]
            congr 1
            have e1 : (ks.all fun p => (valD ls p.1).isSome && f p.1) = (ks.map (·.1)).all fun k => (valD ls k).isSome && f k := by rw [List.all_map]; rfl
            have e2 : (vs1.all fun p => (valueAt vs2 p.1).isSome && f p.1) = (vs1.map (·.1)).all fun k => (valueAt vs2 k).isSome && f k := by rw [List.all_map]; rfl
            rw [e1, e2, b2]
            congr 1
            funext k
            rw [same k]
          have post' : EP X pins σ Q (.bool (ks.length == ls.length && c)) s := post
          rw [eb] at post'
          refine PySem.W.eq_dictsT (n := 40) a1 a2 d1 d2 (fun k u y hm hy => ?_) (by omega) post'
          obtain ⟨v, d', q1, q2, q3⟩ := b3 k u hm
          rcases b4' k with ⟨q4, _⟩ | ⟨u', v', d'', q4, q5, q6, q7⟩
          · rw [q4] at hy
            cases hy
          · rw [q4] at hy
            cases hy
            exact eqB_ok I R 40 (hf k d' d'' q1 q5) q2 q6 q3 q7
      | _ => first | exact absurd rfl hl | cases h
    | _ => cases q <;> first | exact absurd rfl hl | cases h
theorem oo_ne {X : Cx} {cl : Str → Option Addr} (hu : X.A.units + 64 < cLine) : OpR X (compareOp .NotEq) (rNeM X.K cl) := by
  intro pins s σ H v w u1 u2 Q I r1 r2 hh
  obtain ⟨β, S, d, e, b, R, hv, hw, h, q⟩ := hh
  have post : EP X pins σ Q (.bool (!b)) s := ⟨.bl (!b), H, I, rfl, q⟩
  have wp := hv.vw R
  have wq := hw.vw R
  unfold neO at h
  by_cases hl : leafW (vw S d) (vw S e) = true
  · exact (leaf_ok I (by omega) r1 r2 _ _ hl wp wq h).2.1 _ _ _ _ post
  · generalize hp : vw S d = p at *
    generalize hq : vw S e = q at *
    cases p with
    | tup ds =>
      cases q with
      | tup es =>
        obtain ⟨l1, xs1, rfl, k1, m1⟩ := wp
        obtain ⟨l2, xs2, rfl, k2, m2⟩ := wq
        cases r1
        cases r2
        obtain ⟨its1, v1, g1, _⟩ := I.tuple k1
        obtain ⟨its2, v2, g2, _⟩ := I.tuple k2
        obtain ⟨z1, i1⟩ := items_at v1 m1
        obtain ⟨z2, i2⟩ := items_at v2 m2
        obtain ⟨f, hf, hb⟩ := eqL_len h
        rw [hb, ← z1, ← z2] at post
        refine SeqAt.RcNeAt.tuples g1 g2 (by omega) (fun j h1 h2 => ?_) _ _ _ _ post
        obtain ⟨v, d', q1, q2, q3⟩ := i1 j h1
        obtain ⟨v', d'', q1', q2', q3'⟩ := i2 j h2
        exact eqP_ok I R 40 (by show X.A.units + 1 + 40 < cLine; omega) (hf j d' d'' q1 q1') q2 q2' q3 q3'
      | _ => first | exact absurd rfl hl | cases h
    | lst ds =>
      cases q with
      | lst es =>
        obtain ⟨l1, xs1, rfl, k1, m1⟩ := wp
        obtain ⟨l2, xs2, rfl, k2, m2⟩ := wq
        cases r1
        cases r2
        obtain ⟨its1, v1, g1, _⟩ := I.list k1
        obtain ⟨its2, v2, g2, _⟩ := I.list k2
        obtain ⟨z1, i1⟩ := items_at v1 m1
        obtain ⟨z2, i2⟩ := items_at v2 m2
        obtain ⟨f, hf, hb⟩ := eqL_len h
        by_cases hz : its1.toArray.size = its2.toArray.size
        · have e1 : b = (List.range its1.toArray.size).all f := by
            rw [hb, ← z1, ← z2, hz]
            simp
          rw [e1] at post
          refine SeqAt.RcNeAt.lists g1.isList g2.isList hz (by omega) (fun j h1 h2 => ?_) _ _ _ _ post
          obtain ⟨v, d', q1, q2, q3⟩ := i1 j h1
          obtain ⟨v', d'', q1', q2', q3'⟩ := i2 j h2
          exact eqP_ok I R 40 (by show X.A.units + 1 + 40 < cLine; omega) (hf j d' d'' q1 q1') q2 q2' q3 q3'
        · have e1 : b = false := by
            rw [hb, ← z1, ← z2]
            have : (its1.toArray.size == its2.toArray.size) = false := beq_eq_false_iff_ne.mpr hz
            rw [this, Bool.and_false]
          rw [e1] at post
          exact SeqAt.RcNeAt.lists_lengths g1.isList g2.isList (bne_iff_ne.mpr hz) (by omega) _ _ _ _ post
      | _ => first | exact absurd rfl hl | cases h
    | dct ks => cases q <;> cases h
    | _ => cases q <;> first | exact absurd rfl hl | cases h
theorem om_eq {G : Gs} : OpM G eqD (rEqM G.K G.cl) := by
  intro W β S H x y d e Q R rx ry h
  unfold eqD at h
  split at h
  · rename_i b hb
    exact ⟨β, S, d, e, b, R, rx, ry, hb, h β H Ex.refl R _ (.bl b)⟩
  · exact h.elim
theorem om_ne {G : Gs} : OpM G neD (rNeM G.K G.cl) := by
  intro W β S H x y d e Q R rx ry h
  unfold neD at h
  split at h
  · rename_i b hb
    exact ⟨β, S, d, e, b, R, rx, ry, hb, h β H Ex.refl R _ (.bl _)⟩
  · exact h.elim
end Mi
namespace Mi
open PySem PySem.Spec PyProof.Rows L2
/-! ### in, not in -/
def keyD : D → Option Key
  | .int i => some (.inl i)
  | .str x => some (.inr x)
  | _ => none
theorem RD.key {K : PySem.W.Frag} {β : List Addr} {H : Hp} {v : V} {d : D} {k : Key} (h : RD K β H v d) (e : keyD d = some k) : v = L2.kV k := by
  cases h <;> first | (cases e; done) | (cases e; rfl)
def kD : Key → D
  | .inl i => .int i
  | .inr x => .str x
theorem rd_key {K : PySem.W.Frag} {β : List Addr} {H : Hp} (k : Key) : RD K β H (L2.kV k) (kD k) := by
  cases k
  · exact .int _
  · exact .str _
/-- is x among the items -/
def inL (f : D → D → Option Bool) (x : D) : List D → Option Bool
  | [] => some false
  | y :: ys => match f y x, inL f x ys with
    | some a, some b => some (a || b)
    | _, _ => none
def inO (S : So) (d e : D) : Option Bool := match d, e with
  | .str x, .str y => some (!(Builtin.Str.occurrences y x 0 y.length 1).isEmpty)
  | _, _ => match vw S e with
    | .tup ds => inL (eqB false S 40) d ds
    | .lst ds => inL (eqB false S 40) d ds
    | .dct kvs => (keyD d).map fun k => (valD kvs k).isSome
    | _ => none
def inD (d e : D) (S : So) : Rs D := match inO S d e with
  | some b => .ok (.bl b) S
  | none => .stuck
def notInD (d e : D) (S : So) : Rs D := match inO S d e with
  | some b => .ok (.bl (!b)) S
  | none => .stuck
def rInM (K : PySem.W.Frag) (cl : Str → Option Addr) (neg : Bool) : R2 := fun x y H Q => ∃ (β : List Addr) (S : So) (d e : D) (b : Bool), Rl K cl β S H ∧ RD K β H x d ∧ RD K β H y e ∧ inO S d e = some b ∧ Q (.bl (if neg then !b else b)) H
section
variable {X : Cx} {pins : List (Addr × Obj)} {σ : Sl} {H : Hp} {s : Shared} {β : List Addr} {S : So} {cl : Str → Option Addr}
open Classical in
/-- what an item is worth against x -/
noncomputable def worthOf (K : PySem.W.Frag) (β : List Addr) (H : Hp) (S : So) (x : D) (u : Value) : Bool := if ∃ v d, RelV v u ∧ RD K β H v d ∧ eqB false S 40 d x = some true then true else false
theorem worth_is (I : Inv X pins σ H s) (R : Rl X.K cl β S H) {x d : D} {v : V} {u : Value} {b : Bool} (ru : RelV v u) (rd : RD X.K β H v d) (h : eqB false S 40 d x = some b) : worthOf X.K β H S x u = b := by
  unfold worthOf
  cases b with
  | true => rw [if_pos ⟨v, d, ru, rd, h⟩]
  | false =>
    rw [if_neg]
    rintro ⟨v', d', r1, r2, r3⟩
    have := r1.inj ru
    subst this
    have := RD.fn I R r2 rd
    subst this
    rw [h] at r3
    cases r3
theorem any_is (I : Inv X pins σ H s) (R : Rl X.K cl β S H) {x : D} : ∀ {xs : List V} {its : List Value} {ds : List D} {b : Bool}, Vals xs its → RDs X.K β H xs ds → inL (eqB false S 40) x ds = some b →
    its.any (worthOf X.K β H S x) = b ∧ ∀ u ∈ its, ∃ v d c, RelV v u ∧ RD X.K β H v d ∧ eqB false S 40 d x = some c ∧ worthOf X.K β H S x u = c
  | _, _, _, b, .nil, .nil, h => by cases h; exact ⟨rfl, fun u hu => by simp at hu⟩
  | _, _, _, b, .cons r1 r2, .cons m1 m2, h => by
    unfold inL at h
    split at h
    · rename_i a c h1 h2
      cases h
      obtain ⟨q1, q2⟩ := any_is I R r2 m2 h2
      have w := worth_is I R r1 m1 h1
      refine ⟨by rw [List.any_cons, w, q1], fun u hu => ?_⟩
      rcases List.mem_cons.mp hu with z | z
      · subst z
        exact ⟨_, _, _, r1, m1, h1, w⟩
      · exact q2 u z
    · cases h
end
theorem oo_in {X : Cx} {cl : Str → Option Addr} (hu : X.A.units + 64 < cLine) : OpR X (compareOp .In) (rInM X.K cl false) := by
  intro pins s σ H v w u1 u2 Q I r1 r2 hh
  obtain ⟨β, S, d, e, b, R, hv, hw, h, q⟩ := hh
  have post : EP X pins σ Q (.bool b) s := ⟨.bl b, H, I, rfl, q⟩
  unfold inO at h
  split at h
  · cases hv
    cases hw
    cases h
    obtain ⟨t, rfl⟩ := r1
    obtain ⟨t', rfl⟩ := r2
    exact in_str post
  · have wq := hw.vw R
    generalize hq : vw S e = p at *
    cases p with
    | tup ds =>
      obtain ⟨l, xs, rfl, k, m⟩ := wq
      cases r2
      obtain ⟨its, v1, g, _⟩ := I.tuple k
      obtain ⟨q1, q2⟩ := any_is I R v1 m h
      refine SeqAt.in_tupleAt (worthOf X.K β H S d) g (fun y hy => ?_) (by simpa [q1] using post)
      obtain ⟨v', d', c, a1, a2, a3, a4⟩ := q2 y (by simpa using hy)
      rw [a4]
      exact eqP_ok I R 40 (by show X.A.units + 1 + 40 < cLine; omega) a3 a2 hv a1 r1
    | lst ds =>
      obtain ⟨l, xs, rfl, k, m⟩ := wq
      cases r2
      obtain ⟨its, v1, g, _⟩ := I.list k
      obtain ⟨q1, q2⟩ := any_is I R v1 m h
      refine SeqAt.in_listAt (worthOf X.K β H S d) g.isList (fun y hy => ?_) (by simpa [q1] using post)
      obtain ⟨v', d', c, a1, a2, a3, a4⟩ := q2 y (by simpa using hy)
      rw [a4]
      exact eqP_ok I R 40 (by show X.A.units + 1 + 40 < cLine; omega) a3 a2 hv a1 r1
    | dct kvs =>
      obtain ⟨l, ys, rfl, k, m⟩ := wq
      cases r2
      have h' : (keyD d).map (fun k => (valD kvs k).isSome) = some b := h
      cases hk : keyD d with
      | none => rw [hk] at h'; cases h'
      | some key =>
        rw [hk] at h'
        cases h'
        have := hv.key hk
        subst this
        obtain ⟨vs, _, kv, _, _⟩ := nodup_of I k
        have e1 : (valV ys key).isSome = (valD kvs key).isSome := by
          have z := (kv.val key).isSome_eq
          rcases (kv3 m kv).2.2.2 key with ⟨c1, c2⟩ | ⟨u, v, d, c1, c2, _⟩ <;> rw [z, c1, c2] <;> rfl
        refine d_in (by omega) I (DGet.k (k := key) k) r1 fun s' I' => ?_
        rw [e1]
        exact ⟨.bl _, H, I', rfl, q⟩
    | _ => cases h
theorem oo_notIn {X : Cx} {cl : Str → Option Addr} (hu : X.A.units + 64 < cLine) : OpR X (compareOp .NotIn) (rInM X.K cl true) := by
  intro pins s σ H v w u1 u2 Q I r1 r2 hh
  obtain ⟨β, S, d, e, b, R, hv, hw, h, q⟩ := hh
  have post : EP X pins σ Q (.bool (!b)) s := ⟨.bl (!b), H, I, rfl, q⟩
  unfold inO at h
  split at h
  · cases hv
    cases hw
    cases h
    obtain ⟨t, rfl⟩ := r1
    obtain ⟨t', rfl⟩ := r2
    exact notIn_str post
  · have wq := hw.vw R
    generalize hq : vw S e = p at *
    cases p with
    | tup ds =>
      obtain ⟨l, xs, rfl, k, m⟩ := wq
      cases r2
      obtain ⟨its, v1, g, _⟩ := I.tuple k
      obtain ⟨q1, q2⟩ := any_is I R v1 m h
      refine SeqAt.notIn_tupleAt (worthOf X.K β H S d) g (fun y hy => ?_) (by simpa [q1] using post)
      obtain ⟨v', d', c, a1, a2, a3, a4⟩ := q2 y (by simpa using hy)
      rw [a4]
      exact eqP_ok I R 40 (by show X.A.units + 1 + 40 < cLine; omega) a3 a2 hv a1 r1
    | lst ds =>
      obtain ⟨l, xs, rfl, k, m⟩ := wq
      cases r2
      obtain ⟨its, v1, g, _⟩ := I.list k
      obtain ⟨q1, q2⟩ := any_is I R v1 m h
      refine SeqAt.notIn_listAt (worthOf X.K β H S d) g.isList (fun y hy => ?_) (by simpa [q1] using post)
      obtain ⟨v', d', c, a1, a2, a3, a4⟩ := q2 y (by simpa using hy)
      rw [a4]
      exact eqP_ok I R 40 (by show X.A.units + 1 + 40 < cLine; omega) a3 a2 hv a1 r1
    | dct kvs =>
      obtain ⟨l, ys, rfl, k, m⟩ := wq
      cases r2
      have h' : (keyD d).map (fun k => (valD kvs k).isSome) = some b := h
      cases hk : keyD d with
      | none => rw [hk] at h'; cases h'
      | some key =>
        rw [hk] at h'
        cases h'
        have := hv.key hk
        subst this
        obtain ⟨vs, _, kv, _, _⟩ := nodup_of I k
        have e1 : (valV ys key).isSome = (valD kvs key).isSome := by
          have z := (kv.val key).isSome_eq
          rcases (kv3 m kv).2.2.2 key with ⟨c1, c2⟩ | ⟨u, v, d, c1, c2, _⟩ <;> rw [z, c1, c2] <;> rfl
        refine d_notIn (by omega) I (DGet.k (k := key) k) r1 fun s' I' => ?_
        rw [e1]
        exact ⟨.bl _, H, I', rfl, q⟩
    | _ => cases h
theorem om_in {G : Gs} : OpM G inD (rInM G.K G.cl false) := by
  intro W β S H x y d e Q R rx ry h
  unfold inD at h
  split at h
  · rename_i b hb
    exact ⟨β, S, d, e, b, R, rx, ry, hb, h β H Ex.refl R _ (.bl b)⟩
  · exact h.elim
theorem om_notIn {G : Gs} : OpM G notInD (rInM G.K G.cl true) := by
  intro W β S H x y d e Q R rx ry h
  unfold notInD at h
  split at h
  · rename_i b hb
    exact ⟨β, S, d, e, b, R, rx, ry, hb, h β H Ex.refl R _ (.bl _)⟩
  · exact h.elim

/-! ### subscripts -/
def ixO (S : So) (d e : D) : Option D := match d, e with
  | .str x, .int i => if x.length ≤ lim then (atI x.cps.toList i).map fun c => .str ⟨#[c]⟩ else none
  | _, _ => match vw S d, e with
    | .tup ds, .int i => atI ds i
    | .lst ds, .int i => atI ds i
    | .dct kvs, _ => (keyD e).bind fun k => valD kvs k
    | _, _ => none
def ixD (d e : D) (S : So) : Rs D := match ixO S d e with
  | some z => .ok z S
  | none => .stuck
def rIxD : R2 := fun x y H Q => ∃ a v, x = .ref a ∧ DGet H a y (some v) ∧ Q v H
theorem ix_dict {X : Cx} (hu : X.A.units + 1 < cLine) : IxR X rIxD := by
  intro value slice pins s σ H x y v u Q I rx ry h hs
  obtain ⟨a, z, rfl, g, q⟩ := h
  cases rx
  have hT := dict_typeIs I g
  unfold subscriptTail
  refine wpAny_bind ?_
  rw [getitemInPython_of_ne hT.not_modules]
  refine wpAny_bind (wpAny_specialOf hT PySem.F.slot_dict_getitem.lookup ?_)
  have fin : wpAny (model X.prog X.w) X.A (subscripted slice false (.ref a) u) (fun r s₃ => wpAny (model X.prog X.w) X.A (letTemporaryGo value (.ref a) r >>= fun _ => pure r) (EP X pins σ Q) X.xe s₃) X.xe s := by
    rw [hs]
    exact wpAny_operating (d_getItem hu I g ry fun w' s' I' r' => wpAny_bind (wpAny_letTemporaryGo (wpAny_pure ⟨z, H, I', r', q⟩)))
  first
    | exact wpAny_pure (wpAny_bind fin)
    | exact wpAny_bind (wpAny_pure (wpAny_bind fin))
    | exact wpAny_bind fin
theorem oi_any {X : Cx} (hu : X.A.units + 64 < cLine) : IxR X (fun x y H Q => rIx X.K x y H Q ∨ rIxD x y H Q) := ix_seq.or (ix_dict (by omega))
theorem atI_rel {K : PySem.W.Frag} {β : List Addr} {H : Hp} {xs : List V} {ds : List D} (m : RDs K β H xs ds) {i : Int} {d : D} (h : atI ds i = some d) : ∃ v, atI xs i = some v ∧ RD K β H v d := by
  unfold atI at h ⊢
  rw [m.length]
  cases hj : ixN ds.length i with
  | none => rw [hj] at h; cases h
  | some j =>
    rw [hj] at h
    exact m.get h
theorem valD_rel {K : PySem.W.Frag} {β : List Addr} {H : Hp} {ys : List (Key × V)} {kvs : List (Key × D)} (m : RPs K β H ys kvs) (k : Key) : (valV ys k = none ∧ valD kvs k = none) ∨ ∃ v d, valV ys k = some v ∧ valD kvs k = some d ∧ RD K β H v d := by
  unfold RPs at m
  induction m with
  | nil => exact .inl ⟨rfl, rfl⟩
  | @cons p q ps qs a b ih =>
    obtain ⟨k1, v1⟩ := p
    obtain ⟨k2, d2⟩ := q
    obtain ⟨e1, e2⟩ := a
    simp only at e1 e2
    subst e1
    by_cases hk : k1 = k
    · subst hk
      exact .inr ⟨v1, d2, by simp [valV], by simp [valD], e2⟩
    · have q1 : valV ((k1, v1) :: ps) k = valV ps k := by simp [valV, List.find?_cons, hk]
      have q2 : valD ((k1, d2) :: qs) k = valD qs k := by simp [valD, List.find?_cons, hk]
      rw [q1, q2]
      exact ih
theorem om_ix {G : Gs} : OpM G ixD (fun x y H Q => rIx G.K x y H Q ∨ rIxD x y H Q) := by
  intro W β S H x y d e Q R rx ry h
  unfold ixD at h
  split at h
  · rename_i z hz
    unfold ixO at hz
    split at hz
    · cases rx
      cases ry
      split at hz
      · rename_i x i hl
        cases hc : atI x.cps.toList i with
        | none => rw [hc] at hz; cases hz
        | some c =>
          rw [hc] at hz
          cases hz
          exact .inl (.inr (.inr ⟨_, _, c, rfl, rfl, lim_le hl, hc, h β H Ex.refl R _ (.str _)⟩))
      · cases hz
    · have wp := rx.vw R
      generalize hp : vw S d = p at *
      split at hz
      · cases ry
        obtain ⟨l, xs, rfl, k, m⟩ := wp
        obtain ⟨v, h1, h2⟩ := atI_rel m hz
        exact .inl (.inr (.inl ⟨l, xs, _, v, rfl, rfl, k, h1, h β H Ex.refl R _ h2⟩))
      · cases ry
        obtain ⟨l, xs, rfl, k, m⟩ := wp
        obtain ⟨v, h1, h2⟩ := atI_rel m hz
        exact .inl (.inl ⟨l, xs, _, v, rfl, rfl, k, h1, h β H Ex.refl R _ h2⟩)
      · obtain ⟨l, ys, rfl, k, m⟩ := wp
        cases hk : keyD e with
        | none => rw [hk] at hz; cases hz
        | some key =>
          rw [hk] at hz
          have := ry.key hk
          subst this
          have hz' : valD _ key = some z := hz
          rcases valD_rel m key with ⟨_, c2⟩ | ⟨v, d', c1, c2, c3⟩
          · rw [c2] at hz'; cases hz'
          · rw [c2] at hz'
            cases hz'
            exact .inr ⟨l, v, rfl, by rw [← c1]; exact DGet.k k, h β H Ex.refl R _ c3⟩
      · cases hz
  · exact h.elim
section
variable {X : Cx} {G : Gs} {W : WX} {a b : Expr} {ma mb : ME} {pos p2 : Pos}
theorem ce_ix (hu : X.A.units + 64 < cLine) (hK : X.K = G.K) (ha : PE X a (tM G W ma)) (hb : PE X b (tM G W mb)) (hs : PlainIx b) : PE X (.Subscript a b pos) (tM G W (m2 ixD ma mb)) := by
  have := pe_ix (oi_any hu) ha hb hs (pos := pos)
  rw [hK] at this
  exact pe_imp this fun _ _ _ h => tM_op om_ix h

/-! ### slices -/
abbrev MO := Ro → So → Rs (Option Int)
def tO (G : Gs) (W : WX) (m : MO) : TO := fun σ H Q => ∃ β ρ S, Rl G.K G.cl β S H ∧ RVs G β H σ ρ ∧ Gd G W β H (m ρ S) fun o _ _ H' => Q o H'
def mNoPart : MO := fun _ S => .ok none S
def mPart (m : ME) : MO := fun ρ S => (m ρ S).bind fun d S1 => match d with
  | .int i => .ok (some i) S1
  | _ => .stuck
theorem po_imp {e : Option Expr} {t t' : TO} (h : PO X e t) (hi : ∀ σ H Q, t' σ H Q → t σ H Q) : PO X e t' := ⟨fun pins s σ H Q I q => h.run pins s σ H Q I (hi σ H Q q)⟩
theorem co_none : PO X none (tO G W mNoPart) := po_imp po_none fun σ H Q h => by
  obtain ⟨β, ρ, S, R, V, h⟩ := h
  exact h β H Ex.refl R
theorem co_some (ha : PE X a (tM G W ma)) : PO X (some a) (tO G W (mPart ma)) := po_imp (po_some ha) fun σ H Q h => by
  obtain ⟨β, ρ, S, R, V, h⟩ := h
  refine ⟨β, ρ, S, R, V, h.bind.imp fun d S1 β1 H1 e1 R1 h1 x rx => ?_⟩
  split at h1
  · cases rx
    exact ⟨_, rfl, h1 β1 H1 Ex.refl R1⟩
  · exact h1.elim
def cutD (ds : List D) (lo hi : Option Int) : List D := (ds.drop (HT.sIx ds.length 0 lo)).take (HT.sIx ds.length ds.length hi - HT.sIx ds.length 0 lo)
def slD (d : D) (lo hi : Option Int) (S : So) : Rs D := match d with
  | .str x => if x.length ≤ lim then .ok (.str (cutS x lo hi)) S else .stuck
  | _ => match vw S d with
    | .tup ds => .ok (.tup (cutD ds lo hi)) S
    | .lst ds => .ok (.ref S.length) (S ++ [.lst (cutD ds lo hi)])
    | _ => .stuck
def mSl (m : ME) (ml mh : MO) : ME := fun ρ S => (m ρ S).bind fun d S1 => (ml ρ S1).bind fun l S2 => (mh ρ S2).bind fun u S3 => slD d l u S3
theorem cut_rel {K : PySem.W.Frag} {β : List Addr} {H : Hp} {xs : List V} {ds : List D} (m : RDs K β H xs ds) (lo hi : Option Int) : RDs K β H (cutV xs lo hi) (cutD ds lo hi) := by
  unfold cutV cutD
  rw [m.length]
  exact (m.drop _).take _
theorem cut_all {ds : List D} {lo hi : Option Int} (h : HT.sIx ds.length 0 lo = 0 ∧ HT.sIx ds.length ds.length hi = ds.length) : cutD ds lo hi = ds := by
  unfold cutD
  rw [h.1, h.2]
  simp
theorem last_of {β : List Addr} {S : So} {p : Addr} (h : β.length = S.length) : (β ++ [p])[S.length]? = some p := by
  rw [← h, List.getElem?_append_right (Nat.le_refl _)]
  simp
theorem ce_slice {lo hi : Option Expr} {ml mh : MO} (hK : X.K = G.K) (ha : PE X a (tM G W ma)) (hl : PO X lo (tO G W ml)) (hh : PO X hi (tO G W mh)) : PE X (.Subscript a (.Slice lo hi none p2) pos) (tM G W (mSl ma ml mh)) := by
  refine pe_imp (pe_slice (sl_tupA.or (sl_list.or sl_str)) ha hl hh) fun σ H Q h => ?_
  obtain ⟨β, ρ, S, R, V, h⟩ := h
  refine ⟨β, ρ, S, R, V, h.bind.imp fun d S1 β1 H1 e1 R1 h1 x rx => ?_⟩
  refine ⟨β1, ρ, S1, R1, V.mono e1, h1.bind.imp fun l S2 β2 H2 e2 R2 h2 => ?_⟩
  refine ⟨β2, ρ, S2, R2, V.mono (e1.trans e2), h2.bind.imp fun u S3 β3 H3 e3 R3 h3 => ?_⟩
  have rx3 := rx.mono (e2.trans e3).toEw
  unfold slD at h3
  split at h3
  · cases rx
    split at h3
    · rename_i hc
      exact .inr (.inr ⟨_, rfl, lim_le hc, h3 β3 H3 Ex.refl R3 _ (.str _)⟩)
    · exact h3.elim
  · have wp := rx3.vw R3
    generalize hp : vw S3 d = p at *
    split at h3
    · obtain ⟨t, xs, rfl, k, m⟩ := wp
      refine .inl ⟨t, xs, rfl, by rw [hK]; exact k, fun hc => ?_, fun _ p hp => ?_⟩
      · rw [m.length] at hc
        refine h3 β3 H3 Ex.refl R3 _ ?_
        rw [cut_all hc]
        exact .tup k m
      · exact h3 _ _ (Ex.fresh hp) (R3.fresh hp) _ (.tup (.inl (.inl upd_same)) ((cut_rel m _ _).mono (Ex.fresh hp).toEw))
    · obtain ⟨t, xs, rfl, k, m⟩ := wp
      refine .inr (.inl ⟨t, xs, rfl, by rw [hK]; exact k, fun p hp => ?_⟩)
      exact h3 (β3 ++ [p]) _ (Ex.new hp) (R3.new hp ⟨_, upd_same, (cut_rel m _ _).mono (Ex.new hp).toEw⟩) _ (.ref (last_of R3.len))
    · exact h3.elim

/-! ### lists of arguments, displays -/
def mNilA : MA := fun _ S => .ok [] S
def mConsA (m : ME) (ma : MA) : MA := fun ρ S => (m ρ S).bind fun d S1 => (ma ρ S1).bind fun ds S2 => .ok (d :: ds) S2
theorem ca_nil : PA X [] (tA G W mNilA) := pa_imp pa_nil fun σ H Q h => by
  obtain ⟨β, ρ, S, R, V, h⟩ := h
  exact h β H Ex.refl R _ .nil
theorem ca_cons {e : Expr} {es : List Expr} {m : ME} {mr : MA} (he : PE X e (tM G W m)) (hr : PA X es (tA G W mr)) (hs : starEach (e :: es) X.env = (false, eval e X.env) :: starEach es X.env := by rfl) : PA X (e :: es) (tA G W (mConsA m mr)) :=
  pa_imp (pa_cons he hr hs) fun σ H Q h => by
    obtain ⟨β, ρ, S, R, V, h⟩ := h
    refine ⟨β, ρ, S, R, V, h.bind.imp fun d S1 β1 H1 e1 R1 h1 x rx => ?_⟩
    refine ⟨β1, ρ, S1, R1, V.mono e1, h1.bind.imp fun ds S2 β2 H2 e2 R2 h2 xs rs => ?_⟩
    exact h2 β2 H2 Ex.refl R2 _ (.cons (rx.mono e2) rs)
def mTup (ma : MA) : ME := fun ρ S => (ma ρ S).bind fun ds S1 => if ds.length ≤ lim then .ok (.tup ds) S1 else .stuck
def mLst (ma : MA) : ME := fun ρ S => (ma ρ S).bind fun ds S1 => if ds.length ≤ lim then .ok (.ref S1.length) (S1 ++ [.lst ds]) else .stuck
theorem ce_tup {es : List Expr} {mr : MA} {x1} (h : PA X es (tA G W mr)) : PE X (.Tuple es x1 pos) (tM G W (mTup mr)) := pe_imp (pe_tup h) fun σ H Q h => by
  obtain ⟨β, ρ, S, R, V, h⟩ := h
  refine ⟨β, ρ, S, R, V, h.bind.imp fun ds S1 β1 H1 e1 R1 h1 xs rs => ?_⟩
  split at h1
  · rename_i hc
    refine ⟨by rw [rs.length]; exact lim_le hc, fun p hp => ?_⟩
    exact h1 _ _ (Ex.fresh hp) (R1.fresh hp) _ (.tup (.inl (.inl upd_same)) (rs.mono (Ex.fresh hp).toEw))
  · exact h1.elim
theorem ce_lst {es : List Expr} {mr : MA} (h : PA X es (tA G W mr)) : PE X (.List es pos) (tM G W (mLst mr)) := pe_imp (pe_lst h) fun σ H Q h => by
  obtain ⟨β, ρ, S, R, V, h⟩ := h
  refine ⟨β, ρ, S, R, V, h.bind.imp fun ds S1 β1 H1 e1 R1 h1 xs rs => ?_⟩
  split at h1
  · rename_i hc
    refine ⟨by rw [rs.length]; exact lim_le hc, fun p hp => ?_⟩
    exact h1 (β1 ++ [p]) _ (Ex.new hp) (R1.new hp ⟨_, upd_same, rs.mono (Ex.new hp).toEw⟩) _ (.ref (last_of R1.len))
  · exact h1.elim
def mDict0 : ME := fun _ S => .ok (.ref S.length) (S ++ [.dct []])
theorem ce_dict0 : PE X (.Dict [] [] pos) (tM G W mDict0) := pe_imp pe_dnewK fun σ H Q h => by
  obtain ⟨β, ρ, S, R, V, h⟩ := h
  intro p hp
  exact h (β ++ [p]) _ (Ex.new hp) (R.new hp ⟨[], upd_same, .nil⟩) _ (.ref (last_of R.len))
end
end Mi
namespace Mi
open PySem PySem.Spec PyProof.Rows L2
/-! ### targets -/
abbrev Bnd := D → Ro → Option Ro
def BindM (G : Gs) (b : Bnd) (g : TG) : Prop := ∀ (β : List Addr) (S : So) (H : Hp) (σ : Sl) (ρ ρ' : Ro) (v : V) (d : D) (Q : Sl → Hp → Prop), Rl G.K G.cl β S H → RVs G β H σ ρ → RD G.K β H v d → b d ρ = some ρ' →
  (∀ σ', RVs G β H σ' ρ' → Q σ' H) → g v σ H Q
def bN (i : Nat) : Bnd := fun d ρ => some (ρ.set i (some d))
def bL : List Nat → List D → Ro → Option Ro
  | [], [], ρ => some ρ
  | i :: is, d :: ds, ρ => bL is ds (ρ.set i (some d))
  | _, _, _ => none
def bT (is : List Nat) : Bnd := fun d ρ => match d with
  | .tup ds => bL is ds ρ
  | _ => none
def gL : List Nat → TGs
  | [] => gNil
  | i :: is => gCons (gName i) (gL is)
def noFx (G : Gs) (i : Nat) : Prop := ∀ p ∈ G.fx, p.1 ≠ i
theorem bm_name {G : Gs} {i : Nat} (hf : noFx G i) : BindM G (bN i) (gName i) := by
  intro β S H σ ρ ρ' v d Q R V r e h
  cases e
  exact h _ (V.set r hf)
theorem bm_list {G : Gs} {β : List Addr} {H : Hp} : ∀ (is : List Nat) (_ : ∀ i ∈ is, noFx G i) (ds : List D) (vs : List V) (σ : Sl) (ρ ρ' : Ro) (Q : Sl → Hp → Prop), RVs G β H σ ρ → RDs G.K β H vs ds → bL is ds ρ = some ρ' →
    (∀ σ', RVs G β H σ' ρ' → Q σ' H) → gL is vs σ H Q
  | [], _, [], vs, σ, ρ, ρ', Q, V, r, e, h => by
    cases r
    cases e
    exact ⟨rfl, h _ V⟩
  | i :: is, hf, d :: ds, vs, σ, ρ, ρ', Q, V, r, e, h => by
    cases r with
    | cons r1 r2 =>
      refine ⟨_, _, rfl, ?_⟩
      exact bm_list is (fun j hj => hf j (List.mem_cons_of_mem _ hj)) ds _ _ _ ρ' Q (V.set r1 (hf i List.mem_cons_self)) r2 e h
  | [], _, _ :: _, _, _, _, _, _, _, _, e, _ => by cases e
  | _ :: _, _, [], _, _, _, _, _, _, _, e, _ => by cases e
theorem bL_len : ∀ {is : List Nat} {ds : List D} {ρ ρ' : Ro}, bL is ds ρ = some ρ' → ds.length = is.length
  | [], [], _, _, _ => rfl
  | i :: is, d :: ds, ρ, ρ', e => by
    have := bL_len (is := is) (ds := ds) (ρ := ρ.set i (some d)) (ρ' := ρ') e
    simp [this]
  | [], _ :: _, _, _, e => by cases e
  | _ :: _, [], _, _, e => by cases e
theorem bm_tup {G : Gs} {is : List Nat} {n : Nat} (hn : is.length = n) (hf : ∀ i ∈ is, noFx G i) : BindM G (bT is) (gTup G.K n (gL is)) := by
  intro β S H σ ρ ρ' v d Q R V r e h
  unfold bT at e
  split at e
  · cases r with
    | tup q m =>
      refine ⟨_, _, rfl, q, ?_, bm_list is hf _ _ σ ρ ρ' Q V m e h⟩
      rw [m.length, bL_len e, hn]
  · cases e

/-! ### blocks -/
section
variable {X : Cx} {G : Gs} {W : WX} {a b : Expr} {m ma mb : ME} {mt : MT} {s1 s2 : MS} {st : Stmt} {rest : List Stmt} {pos pos' : Pos}
def mSeq (s1 s2 : MS) : MS := fun ρ S => (s1 ρ S).bind fun p S1 => match p.1 with
  | .nx => s2 p.2 S1
  | _ => .ok p S1
def mSkip : MS := fun ρ S => .ok (.nx, ρ) S
theorem kS_other {D : Ends} {D' : Ends} {p : Fl × Ro} {S : So} {β : List Addr} {H : Hp} (hp : p.1 ≠ .nx) (hb : D'.bk = D.bk) (hc : D'.ct = D.ct) (hr : D'.rt = D.rt) (h : kS G D p S β H) : kS G D' p S β H := by
  obtain ⟨f, ρ⟩ := p
  cases f with
  | nx => exact absurd rfl hp
  | bk => intro σ V; rw [hb]; exact h σ V
  | ct => intro σ V; rw [hc]; exact h σ V
  | rt d => intro v r; rw [hr]; exact h v r
theorem Gd.ok_at {α : Type} {β : List Addr} {H : Hp} {x : α} {S : So} {k : α → So → List Addr → Hp → Prop} (h : Gd G W β H (.ok x S) k) (R : Rl G.K G.cl β S H) : k x S β H := h β H Ex.refl R
theorem sM_seq {D : Ends} {σ : Sl} {H : Hp} (h : sM G W (mSeq s1 s2) D σ H) : tSeq (sM G W s1) (sM G W s2) D σ H := by
  obtain ⟨β, ρ, S, R, V, h⟩ := h
  refine ⟨β, ρ, S, R, V, h.bind.imp fun p S1 β1 H1 e1 R1 h1 => ?_⟩
  obtain ⟨f, ρ1⟩ := p
  cases f with
  | nx => exact fun σ' V' => ⟨β1, ρ1, S1, R1, V', h1⟩
  | bk => exact h1.ok_at R1
  | ct => exact h1.ok_at R1
  | rt d => exact h1.ok_at R1
theorem css_nil : PSs X [] (sM G W mSkip) := pss_imp pss_nil fun D σ H h => by
  obtain ⟨β, ρ, S, R, V, h⟩ := h
  exact h.ok_at R σ V
theorem css_cons (h1 : PS X st (sM G W s1)) (h2 : PSs X rest (sM G W s2)) : PSs X (st :: rest) (sM G W (mSeq s1 s2)) := pss_imp (pss_cons h1 h2) fun _ _ _ h => sM_seq h
theorem css_one (h1 : PS X st (sM G W s1)) : PSs X [st] (sM G W s1) := pss_one h1
theorem cs_pass : PS X (.Pass pos) (sM G W mSkip) := ps_imp ps_pass fun D σ H h => by
  obtain ⟨β, ρ, S, R, V, h⟩ := h
  exact h.ok_at R σ V
def mBk : MS := fun ρ S => .ok (.bk, ρ) S
def mCt : MS := fun ρ S => .ok (.ct, ρ) S
theorem cs_break : PS X (.Break pos) (sM G W mBk) := ps_imp ps_break fun D σ H h => by
  obtain ⟨β, ρ, S, R, V, h⟩ := h
  exact h.ok_at R σ V
theorem cs_continue : PS X (.Continue pos) (sM G W mCt) := ps_imp ps_continue fun D σ H h => by
  obtain ⟨β, ρ, S, R, V, h⟩ := h
  exact h.ok_at R σ V
/-- code that is never come to -/
def mNever : MS := fun _ _ => .stuck
theorem cs_never : PS X st (sM G W mNever) := ps_imp ps_never fun D σ H h => by
  obtain ⟨β, ρ, S, R, V, h⟩ := h
  exact h
def mDrop (m : ME) : MS := fun ρ S => (m ρ S).bind fun _ S1 => .ok (.nx, ρ) S1
theorem cs_expr (ha : PE X a (tM G W ma)) (hs : swapsWith a none pos.line X.env = pure false := by rfl) : PS X (.Expr a pos) (sM G W (mDrop ma)) := ps_imp (ps_expr ha hs) fun D σ H h => by
  obtain ⟨β, ρ, S, R, V, h⟩ := h
  exact ⟨β, ρ, S, R, V, h.bind.imp fun d S1 β1 H1 e1 R1 h1 v rv => h1.ok_at R1 σ (V.mono e1)⟩
def mRet (m : ME) : MS := fun ρ S => (m ρ S).bind fun d S1 => .ok (.rt d, ρ) S1
theorem cs_ret (ha : PE X a (tM G W ma)) : PS X (.Return (some a) pos) (sM G W (mRet ma)) := ps_imp (ps_ret ha) fun D σ H h => by
  obtain ⟨β, ρ, S, R, V, h⟩ := h
  exact ⟨β, ρ, S, R, V, h.bind.imp fun d S1 β1 H1 e1 R1 h1 v rv => h1.ok_at R1 v rv⟩
def mRetN : MS := fun ρ S => .ok (.rt .non, ρ) S
theorem cs_retN : PS X (.Return none pos) (sM G W mRetN) := ps_imp ps_retN fun D σ H h => by
  obtain ⟨β, ρ, S, R, V, h⟩ := h
  exact h.ok_at R .non .non
def mIf (mt : MT) (s1 s2 : MS) : MS := fun ρ S => (mt ρ S).bind fun c S1 => if c then s1 ρ S1 else s2 ρ S1
theorem cs_if {c : Expr} {x y : List Stmt} (hc : PT X c (tT G W mt)) (ha : PSs X x (sM G W s1)) (hb : PSs X y (sM G W s2)) : PS X (.If c x y pos) (sM G W (mIf mt s1 s2)) := ps_imp (ps_if hc ha hb) fun D σ H h => by
  obtain ⟨β, ρ, S, R, V, h⟩ := h
  refine ⟨β, ρ, S, R, V, h.bind.imp fun c S1 β1 H1 e1 R1 h1 => ?_⟩
  cases c with
  | true => exact ⟨β1, ρ, S1, R1, V.mono e1, h1⟩
  | false => exact ⟨β1, ρ, S1, R1, V.mono e1, h1⟩

/-! ### assignments -/
def mAsg (m : ME) (b : Bnd) : MS := fun ρ S => (m ρ S).bind fun d S1 => match b d ρ with
  | some ρ' => .ok (.nx, ρ') S1
  | none => .stuck
theorem sM_asg {g : TG} {bn : Bnd} (hb : BindM G bn g) {D : Ends} {σ : Sl} {H : Hp} (h : sM G W (mAsg m bn) D σ H) : tAsg (tM G W m) g D σ H := by
  obtain ⟨β, ρ, S, R, V, h⟩ := h
  refine ⟨β, ρ, S, R, V, h.bind.imp fun d S1 β1 H1 e1 R1 h1 v rv => ?_⟩
  split at h1
  · rename_i ρ' e
    exact hb β1 S1 H1 σ ρ ρ' v d _ R1 (V.mono e1) rv e (h1.ok_at R1)
  · exact h1.elim
/-- x = e -/
theorem cs_set (i : Nat) {x : Str} (hN : X.N.Nodup) (hf : noFx G i) (ha : PE X a (tM G W ma)) (hi : X.N[i]? = some x := by rfl) (hx : Loc X.env.scope x := by first | exact Or.inl rfl | exact Or.inr rfl)
    (hs : swapsWith a (some (.Name x pos')) pos.line X.env = pure false := by rfl) (hc : X.fn x = true ∨ X.env.scope.names.lookup x = some .local := by first | exact .inl rfl | exact .inr rfl | assumption) :
    PS X (.Assign [.Name x pos'] a pos) (sM G W (mAsg ma (bN i))) := ps_imp (ps_set hN hi hx ha hs hc) fun _ _ _ h => sM_asg (bm_name hf) h
/-- any target -/
theorem cs_asg {tg : Expr} {g : TG} {bn : Bnd} (hb : BindM G bn g) (ha : PE X a (tM G W ma)) (hg : PG X tg g) (hs : swapsWithSole [tg] a pos.line X.env = pure false := by rfl) (hw : swappedStores [tg] a X.env = pure none := by rfl)
    (h1 : (assignEach [tg] X.env).map (·.2) = [assign tg X.env] := by rfl) : PS X (.Assign [tg] a pos) (sM G W (mAsg ma bn)) := ps_imp (ps_asg ha hg hs hw h1) fun _ _ _ h => sM_asg hb h
/-- x op= e -/
def mAug (i : Nat) (f : D → D → So → Rs D) (m : ME) : MS := fun ρ S => match ρ[i]? with
  | some (some d) => (m ρ S).bind fun e S1 => (f d e S1).bind fun z S2 => .ok (.nx, ρ.set i (some z)) S2
  | _ => .stuck
theorem cs_aug (i : Nat) {x : Str} {op : Operator} {r : R2} {f : D → D → So → Rs D} (hN : X.N.Nodup) (hf : noFx G i) (ho : OpR X (inplaceOp op) r) (hm : OpM G f r) (ha : PE X a (tM G W ma)) (hi : X.N[i]? = some x := by rfl) (hx : Loc X.env.scope x := by first | exact Or.inl rfl | exact Or.inr rfl)
    (hc : X.fn x = true ∨ X.env.scope.names.lookup x = some .local := by first | exact .inl rfl | exact .inr rfl | assumption) :
    PS X (.AugAssign (.Name x pos') op a pos) (sM G W (mAug i f ma)) := ps_imp (ps_aug hN hi hx ha (fun pins s σ H x y v u Q I r1 r2 h => ho pins s σ H x y v u Q I r1 r2 h) hc) fun D σ H h => by
  obtain ⟨β, ρ, S, R, V, h⟩ := h
  unfold mAug at h
  split at h
  · rename_i d e
    obtain ⟨v, hv, rv⟩ := V.slot i d e
    refine ⟨v, hv, β, ρ, S, R, V, h.bind.imp fun d2 S1 β1 H1 e1 R1 h1 y ry => ?_⟩
    refine hm W β1 S1 H1 v y d d2 _ R1 (rv.mono e1) ry (h1.bind.imp fun z S2 β2 H2 e2 R2 h2 w rw' => ?_)
    exact h2.ok_at R2 _ ((V.mono (e1.trans e2)).set rw' hf)
  · exact h.elim
/-- o[i] = e by values -/
def SetM (G : Gs) (f : D → D → D → So → Rs Unit) (t : TSet) : Prop := ∀ (W : WX) (β : List Addr) (S : So) (H : Hp) (o i v : V) (d e z : D) (Q : Hp → Prop), Rl G.K G.cl β S H → RD G.K β H o d → RD G.K β H i e → RD G.K β H v z →
  Gd G W β H (f d e z S) (fun _ S' β' H' => Q H') → t o i v H Q
def mStore (f : D → D → D → So → Rs Unit) (mo mi mv : ME) : MS := fun ρ S => (mv ρ S).bind fun z S1 => (mo ρ S1).bind fun d S2 => (mi ρ S2).bind fun e S3 => (f d e z S3).bind fun _ S4 => .ok (.nx, ρ) S4
/-- xs[i] = v, d[k] = v -/
def setL (m : Nat) (ds : List D) (i : Int) (z : D) (S : So) : Rs Unit := match ixN ds.length i with
  | some j => .ok () (S.set m (.lst (ds.set j z)))
  | none => .stuck
def putD (kvs : List (Key × D)) (k : Key) (v : D) : List (Key × D) :=
  if (kvs.any fun kv => decide (kv.1 = k)) then kvs.map fun kv => if kv.1 = k then (kv.1, v) else kv else kvs ++ [(k, v)]
def setD (d e z : D) (S : So) : Rs Unit := match d with
  | .ref m => match S[m]?, e with
    | some (.lst ds), .int i => setL m ds i z S
    | some (.dct kvs), _ => match keyD e with
      | some k => if kvs.length < lim then .ok () (S.set m (.dct (putD kvs k z))) else .stuck
      | none => .stuck
    | _, _ => .stuck
  | _ => .stuck
def rSetD : TSet := fun o i v H Q => ∃ a H', o = .ref a ∧ DPut H a i v H' ∧ Q H'
theorem set_dict (hu : X.A.units + 1 < cLine) : PSet X rSetD := by
  intro pins s σ H o i v ov iv u Q I ro ri rv h
  obtain ⟨a, H', rfl, g, q⟩ := h
  cases ro
  exact d_setItem hu I g ri rv fun s' I' => ⟨H', I', q⟩
theorem PSet.or {t t' : TSet} (h : PSet X t) (h' : PSet X t') : PSet X (fun o i v H Q => t o i v H Q ∨ t' o i v H Q) := by
  intro pins s σ H o i v ov iv u Q I ro ri rv q
  rcases q with q | q
  · exact h pins s σ H o i v ov iv u Q I ro ri rv q
  · exact h' pins s σ H o i v ov iv u Q I ro ri rv q
theorem os_any (hu : X.A.units + 64 < cLine) : PSet X (fun o i v H Q => rSetL o i v H Q ∨ rSetD o i v H Q) := PSet.or set_list (set_dict (by omega))
theorem put_rel {K : PySem.W.Frag} {β : List Addr} {H : Hp} {ys : List (Key × V)} {kvs : List (Key × D)} (m : RPs K β H ys kvs) (k : Key) {v : V} {d : D} (r : RD K β H v d) : RPs K β H (putK ys k v) (putD kvs k d) := by
  have key : ∀ {ys : List (Key × V)} {kvs : List (Key × D)}, RPs K β H ys kvs → (ys.any fun kv => decide (kv.1 = k)) = (kvs.any fun kv => decide (kv.1 = k)) ∧
      RPs K β H (ys.map fun kv => if kv.1 = k then (kv.1, v) else kv) (kvs.map fun kv => if kv.1 = k then (kv.1, d) else kv) ∧ RPs K β H (ys ++ [(k, v)]) (kvs ++ [(k, d)]) := by
    intro ys kvs m
    unfold RPs at m ⊢
    induction m with
    | nil => exact ⟨rfl, .nil, .cons ⟨rfl, r⟩ .nil⟩
    | @cons p q ps qs a b ih =>
      obtain ⟨i1, i2, i3⟩ := ih
      obtain ⟨e1, e2⟩ := a
      refine ⟨by rw [List.any_cons, List.any_cons, i1, e1], ?_, .cons ⟨e1, e2⟩ i3⟩
      rw [List.map_cons, List.map_cons]
      refine .cons ?_ i2
      rw [← e1]
      by_cases hk : p.1 = k
      · rw [if_pos hk, if_pos hk]
        exact ⟨by first | rfl | exact e1, r⟩
      · rw [if_neg hk, if_neg hk]
        exact ⟨e1, e2⟩
  obtain ⟨k1, k2, k3⟩ := key m
  unfold putK putD
  rw [k1]
  split
  · exact k2
  · exact k3
theorem sm_any : SetM G setD (fun o i v H Q => rSetL o i v H Q ∨ rSetD o i v H Q) := by
  intro W β S H o i v d e z Q R ro ri rv h
  unfold setD at h
  split at h
  · cases ro with
    | ref hn =>
      split at h
      · rename_i ds ix hs
        obtain ⟨xs, q1, q2⟩ := R.get hs hn
        cases ri
        unfold setL at h
        split at h
        · rename_i j hj
          refine .inl ⟨_, xs, _, j, rfl, rfl, q1, by rw [q2.length]; exact hj, ?_⟩
          obtain ⟨R', e'⟩ := R.upd (ho := .lst (xs.set j v)) (o' := .lst (ds.set j z)) hn (fun o u z => by rw [q1] at z; cases z) fun e' => ⟨_, upd_same, (RDs.set rv j q2).mono e'⟩
          exact h _ _ e' R'
        · exact h.elim
      · rename_i kvs hs
        obtain ⟨ys, q1, q2⟩ := R.get hs hn
        split at h
        · rename_i k hk
          split at h
          · rename_i hl
            have := ri.key hk
            subst this
            refine .inr ⟨_, _, rfl, DPut.k q1 (by rw [q2.length]; exact Nat.lt_trans hl lim_line), ?_⟩
            obtain ⟨R', e'⟩ := R.upd (ho := .dK (putK ys k v)) (o' := .dct (putD kvs k z)) hn (fun o u z => by rw [q1] at z; cases z) fun e' => ⟨_, upd_same, (put_rel q2 k rv).mono e'⟩
            exact h _ _ e' R'
          · exact h.elim
        · exact h.elim
      · exact h.elim
  · exact h.elim
theorem cs_store {o i : Expr} {mo mi mv : ME} {t : TSet} {f : D → D → D → So → Rs Unit} (hs : PSet X t) (hm : SetM G f t) (hv : PE X a (tM G W mv)) (ho : PE X o (tM G W mo)) (hi : PE X i (tM G W mi))
    (hsw : swapsWithSole [.Subscript o i pos'] a pos.line X.env = pure false := by rfl) (hw : swappedStores [.Subscript o i pos'] a X.env = pure none := by rfl)
    (h1 : (assignEach [.Subscript o i pos'] X.env).map (·.2) = [assign (.Subscript o i pos') X.env] := by rfl)
    (h2 : ∀ v, assign (.Subscript o i pos') X.env v = (do
      let ov ← holding [v] (eval o X.env)
      let iv ← holding [v, ov] (eval i X.env)
      standAt pos'
      holding [v, ov, iv] (setItem ov iv v)
      release [v, ov, iv] []) := by intro _; rfl) : PS X (.Assign [.Subscript o i pos'] a pos) (sM G W (mStore f mo mi mv)) := ps_imp (ps_asg hv (pg_sub ho hi hs h2) hsw hw h1) fun D σ H h => by
  obtain ⟨β, ρ, S, R, V, h⟩ := h
  refine ⟨β, ρ, S, R, V, h.bind.imp fun z S1 β1 H1 e1 R1 h1 v rv => ?_⟩
  refine ⟨β1, ρ, S1, R1, V.mono e1, h1.bind.imp fun d S2 β2 H2 e2 R2 h2 ov ro => ?_⟩
  refine ⟨β2, ρ, S2, R2, V.mono (e1.trans e2), h2.bind.imp fun e S3 β3 H3 e3 R3 h3 iv ri => ?_⟩
  refine hm W β3 S3 H3 ov iv v d e z _ R3 (ro.mono e3) ri (rv.mono (e2.trans e3)) (h3.bind.imp fun _ S4 β4 H4 e4 R4 h4 => ?_)
  exact h4.ok_at R4 σ (V.mono (e1.trans (e2.trans (e3.trans e4))))

/-! ### while -/
def whGo (mt : MT) (s : MS) : Nat → MS
  | 0 => fun _ _ => .stuck
  | n + 1 => fun ρ S => (mt ρ S).bind fun c S1 => if c then (s ρ S1).bind fun p S2 => (match p.1 with
      | .nx => whGo mt s n p.2 S2
      | .ct => whGo mt s n p.2 S2
      | .bk => .ok (.nx, p.2) S2
      | .rt d => .ok (.rt d, p.2) S2) else .ok (.nx, ρ) S1
def mWhile (n : Nat) (mt : MT) (s : MS) : MS := whGo mt s n
theorem cs_while (n : Nat) {c : Expr} {body : List Stmt} (hp : PassesOwn (model X.prog X.w) X.A X.env X.xe) (hc : PT X c (tT G W mt)) (hb : PSs X body (sM G W s1)) : PS X (.While c body [] pos) (sM G W (mWhile n mt s1)) := by
  refine ps_imp (ps_while hp hc hb) fun D σ H h => ?_
  refine ⟨fun k σ H => sM G W (whGo mt s1 k) D σ H, ⟨n, h⟩, fun k σ H hk => ?_⟩
  obtain ⟨β, ρ, S, R, V, h⟩ := hk
  cases k with
  | zero => exact h.elim
  | succ k =>
    refine ⟨β, ρ, S, R, V, h.bind.imp fun c S1 β1 H1 e1 R1 h1 => ?_⟩
    cases c with
    | false => exact h1.ok_at R1 σ (V.mono e1)
    | true =>
      refine ⟨fun σ H => sM G W (whGo mt s1 k) D σ H, fun σ' H' q => ⟨k, Nat.lt_succ_self k, q⟩, ?_⟩
      refine ⟨β1, ρ, S1, R1, V.mono e1, h1.bind.imp fun p S2 β2 H2 e2 R2 h2 => ?_⟩
      obtain ⟨f, ρ2⟩ := p
      cases f with
      | nx => exact fun σ' V' => ⟨β2, ρ2, S2, R2, V', h2⟩
      | ct => exact fun σ' V' => ⟨β2, ρ2, S2, R2, V', h2⟩
      | bk => exact h2.ok_at R2
      | rt d => exact h2.ok_at R2

/-! ### what is walked -/
inductive IT where
  | vals (ds : List D)
  | lst (m : Nat)
  | items (m : Nat)
  | keys (m : Nat)
  | valu (m : Nat)
  | enumL (m : Nat)
  | rev (m n : Nat)
  | zipL (m k : Nat)
def itemO (l : Option D) : Option (Option D) := some l
def IT.at (it : IT) (S : So) (i : Nat) : Option (Option D) := match it with
  | .vals ds => some ds[i]?
  | .lst m => match S[m]? with
    | some (.lst ds) => some ds[i]?
    | _ => none
  | .items m => match S[m]? with
    | some (.lck kvs) => some (kvs[i]?.map fun p => .tup [kD p.1, p.2])
    | _ => none
  | .keys m => match S[m]? with
    | some (.lck kvs) => some (kvs[i]?.map fun p => kD p.1)
    | _ => none
  | .valu m => match S[m]? with
    | some (.lck kvs) => some (kvs[i]?.map fun p => p.2)
    | _ => none
  | .enumL m => match S[m]? with
    | some (.lst ds) => some (ds[i]?.map fun d => .tup [.int (i : Nat), d])
    | _ => none
  | .rev m n => match S[m]? with
    | some (.lst ds) => if ds.length = n then (if i < n then some ds[n - 1 - i]? else some none) else none
    | _ => none
  | .zipL m k => match S[m]?, S[k]? with
    | some (.lst ds), some (.lst es) => some (match ds[i]?, es[i]? with
      | some d, some e => some (.tup [d, e])
      | _, _ => none)
    | _, _ => none
/-- how many turns at most -/
def IT.len (it : IT) (S : So) : Nat := match it with
  | .vals ds => ds.length
  | .lst m => match S[m]? with
    | some (.lst ds) => ds.length
    | _ => 0
  | .items m => match S[m]? with
    | some (.lck kvs) => kvs.length
    | _ => 0
  | .keys m => match S[m]? with
    | some (.lck kvs) => kvs.length
    | _ => 0
  | .valu m => match S[m]? with
    | some (.lck kvs) => kvs.length
    | _ => 0
  | .enumL m => match S[m]? with
    | some (.lst ds) => ds.length
    | _ => 0
  | .rev _ n => n
  | .zipL m k => match S[m]? with
    | some (.lst ds) => ds.length
    | _ => 0
abbrev MI := Ro → So → Rs IT
/-- an iterator as it is against what is told of it -/
def JOk (G : Gs) (it : IT) (J : It) (β₀ : List Addr) (H₀ : Hp) : Prop := ∀ (β : List Addr) (S : So) (H : Hp) (i : Nat), Ex β₀ H₀ β H → Rl G.K G.cl β S H →
  (it.at S i = some none → J.stop i H) ∧ ∀ d, it.at S i = some (some d) → J.go i H ∧ ∀ x H', J.yld i H x H' → Ex β H β H' ∧ Rl G.K G.cl β S H' ∧ RD G.K β H' x d
def iM (G : Gs) (W : WX) (mi : MI) : TI := fun σ H R => ∃ β ρ S, Rl G.K G.cl β S H ∧ RVs G β H σ ρ ∧ Gd G W β H (mi ρ S) fun it _ β' H' => ∀ J, JOk G it J β' H' → R J H'
theorem pi_imp {tg e : Expr} {t t' : TI} (h : PI X tg e t) (hi : ∀ σ H R, t' σ H R → t σ H R) : PI X tg e t' := ⟨fun pins s σ H R I q => h.run pins s σ H R I (hi σ H R q)⟩

def forGo (it : IT) (bn : Bnd) (s : MS) : Nat → Nat → MS
  | 0, i => fun ρ S => match it.at S i with
    | some none => .ok (.nx, ρ) S
    | _ => .stuck
  | n + 1, i => fun ρ S => match it.at S i with
    | some none => .ok (.nx, ρ) S
    | some (some d) => match bn d ρ with
      | none => .stuck
      | some ρ1 => (s ρ1 S).bind fun p S2 => match p.1 with
        | .nx => forGo it bn s n (i + 1) p.2 S2
        | .ct => forGo it bn s n (i + 1) p.2 S2
        | .bk => .ok (.nx, p.2) S2
        | .rt d => .ok (.rt d, p.2) S2
    | none => .stuck
def mFor (mi : MI) (bn : Bnd) (s : MS) : MS := fun ρ S => (mi ρ S).bind fun it S1 => forGo it bn s (it.len S1) 0 ρ S1
theorem cs_for {tg iter : Expr} {body : List Stmt} {mi : MI} {bn : Bnd} {g : TG} (hp : PassesOwn (model X.prog X.w) X.A X.env X.xe) (hc : X.calm = true) (hm : BindM G bn g) (hi : PI X tg iter (iM G W mi)) (hg : PG X tg g) (hb : PSs X body (sM G W s1))
    (hs : ∀ x, foldedSetIterable iter X.env x = pure x := by intro _; rfl) : PS X (.For tg iter body [] pos) (sM G W (mFor mi bn s1)) := by
  refine ps_imp (ps_for hp hc hi hg hb hs) fun D σ H h => ?_
  obtain ⟨β, ρ, S, R, V, h⟩ := h
  refine ⟨β, ρ, S, R, V, h.bind.imp fun it S1 β1 H1 e1 R1 h1 J hJ => ?_⟩
  refine ⟨fun i m σ H => ∃ β ρ S, Ex β1 H1 β H ∧ Rl G.K G.cl β S H ∧ RVs G β H σ ρ ∧ Gd G W β H (forGo it bn s1 m i ρ S) (kS G D), ⟨it.len S1, β1, ρ, S1, Ex.refl, R1, V.mono e1, h1⟩, ?_⟩
  rintro i m σ' H' ⟨β2, ρ2, S2, e2, R2, V2, h2⟩
  obtain ⟨j1, j2⟩ := hJ β2 S2 H' i e2 R2
  cases m with
  | zero =>
    unfold forGo at h2
    split at h2
    · rename_i hz
      exact .inl ⟨j1 hz, h2.ok_at R2 _ V2⟩
    · exact h2.elim
  | succ m =>
    unfold forGo at h2
    split at h2
    · rename_i hz
      exact .inl ⟨j1 hz, h2.ok_at R2 _ V2⟩
    · rename_i d hd
      obtain ⟨go, yl⟩ := j2 d hd
      split at h2
      · exact h2.elim
      · rename_i ρ3 hb3
        refine .inr ⟨go, fun σ H => ∃ β ρ S, Ex β1 H1 β H ∧ Rl G.K G.cl β S H ∧ RVs G β H σ ρ ∧ Gd G W β H (forGo it bn s1 m (i + 1) ρ S) (kS G D), fun σ' H' q => ⟨m, Nat.lt_succ_self m, q⟩, fun x H3 y => ?_⟩
        obtain ⟨e3, R3, rd⟩ := yl x H3 y
        refine hm β2 S2 H3 σ' ρ2 ρ3 x d _ R3 (V2.mono e3) rd hb3 fun σ4 V4 => ?_
        refine ⟨β2, ρ3, S2, R3, V4, (h2.mono e3).bind.imp fun p S5 β5 H5 e5 R5 h5 => ?_⟩
        obtain ⟨f, ρ5⟩ := p
        cases f with
        | nx => exact fun σ6 V6 => ⟨β5, ρ5, S5, e2.trans (e3.trans e5), R5, V6, h5⟩
        | ct => exact fun σ6 V6 => ⟨β5, ρ5, S5, e2.trans (e3.trans e5), R5, V6, h5⟩
        | bk => exact h5.ok_at R5
        | rt d => exact h5.ok_at R5
    · exact h2.elim
end
end Mi
namespace Mi
open PySem PySem.Spec PyProof.Rows L2
section
variable {X : Cx} {G : Gs} {W : WX} {a b e : Expr} {es : List Expr} {m ma mb : ME} {mr : MA} {pos p2 : Pos} {tg : Expr}
/-! ### walks -/
def chD (x : Str) : List D := x.cps.toList.map fun c => .str ⟨#[c]⟩
def mIt (m : ME) : MI := fun ρ S => (m ρ S).bind fun d S1 => match d with
  | .tup ds => .ok (.vals ds) S1
  | .frl ds => .ok (.vals ds) S1
  | .str x => .ok (.vals (chD x)) S1
  | .ref n => match S1[n]? with
    | some (.lst _) => .ok (.lst n) S1
    | _ => .stuck
  | _ => .stuck
theorem jok_tup {a : Addr} {ds : List D} {xs : List V} {β₀ : List Addr} {H₀ : Hp} (q : SqT G.K H₀ a xs) (m : RDs G.K β₀ H₀ xs ds) : JOk G (.vals ds) (Itt G.K a) β₀ H₀ := by
  intro β S H i e R
  have q' := sqT_ex e.toEw q
  have m' := m.mono e.toEw
  refine ⟨fun h => ⟨xs, q', ?_⟩, fun d h => ?_⟩
  · have h : ds[i]? = none := by simpa [IT.at] using h
    rw [m.length]
    exact List.getElem?_eq_none_iff.mp h
  · have h : ds[i]? = some d := by simpa [IT.at] using h
    obtain ⟨v, h1, h2⟩ := m'.get h
    refine ⟨⟨xs, v, q', h1⟩, fun x H' y => ?_⟩
    obtain ⟨rfl, y⟩ := y
    have := y xs q'
    rw [h1] at this
    cases this
    exact ⟨Ex.refl, R, h2⟩
theorem jok_frl {a : Addr} {ds : List D} {xs : List V} {β₀ : List Addr} {H₀ : Hp} (q : FzL G.K H₀ a xs) (m : RDs G.K β₀ H₀ xs ds) : JOk G (.vals ds) (Itl G.K a) β₀ H₀ := by
  intro β S H i e R
  have q' := (fzL_ex e.toEw q).sq
  have m' := m.mono e.toEw
  refine ⟨fun h => ⟨xs, q', ?_⟩, fun d h => ?_⟩
  · have h : ds[i]? = none := by simpa [IT.at] using h
    rw [m.length]
    exact List.getElem?_eq_none_iff.mp h
  · have h : ds[i]? = some d := by simpa [IT.at] using h
    obtain ⟨v, h1, h2⟩ := m'.get h
    refine ⟨⟨xs, v, q', h1⟩, fun x H' y => ?_⟩
    obtain ⟨rfl, y⟩ := y
    have := y xs q'
    rw [h1] at this
    cases this
    exact ⟨Ex.refl, R, h2⟩
theorem jok_lst {a : Addr} {n : Nat} {β₀ : List Addr} {H₀ : Hp} (ha : β₀[n]? = some a) : JOk G (.lst n) (Itl G.K a) β₀ H₀ := by
  intro β S H i e R
  have ha' := e.pre _ _ ha
  refine ⟨fun h => ?_, fun d h => ?_⟩
  · unfold IT.at at h
    simp only at h
    split at h
    · rename_i ds hs
      obtain ⟨xs, q1, q2⟩ := R.get hs ha'
      refine ⟨xs, SqL.of q1, ?_⟩
      rw [q2.length]
      exact List.getElem?_eq_none_iff.mp (Option.some.inj h)
    · cases h
  · unfold IT.at at h
    simp only at h
    split at h
    · rename_i ds hs
      obtain ⟨xs, q1, q2⟩ := R.get hs ha'
      obtain ⟨v, h1, h2⟩ := q2.get (Option.some.inj h)
      refine ⟨⟨xs, v, SqL.of q1, h1⟩, fun x H' y => ?_⟩
      obtain ⟨rfl, y⟩ := y
      have := y xs (SqL.of q1)
      rw [h1] at this
      cases this
      exact ⟨Ex.refl, R, h2⟩
    · cases h
theorem jok_str {x : Str} {β₀ : List Addr} {H₀ : Hp} : JOk G (.vals (chD x)) (Its x) β₀ H₀ := by
  intro β S H i e R
  have key : (chD x)[i]? = (x.cps[i]?).map fun c => D.str ⟨#[c]⟩ := by
    unfold chD
    rw [List.getElem?_map, Array.getElem?_toList]
  refine ⟨fun h => ?_, fun d h => ?_⟩
  · have h : (chD x)[i]? = none := by simpa [IT.at] using h
    rw [key] at h
    have : x.cps[i]? = none := by simpa using h
    exact Array.getElem?_eq_none_iff.mp this
  · have h : (chD x)[i]? = some d := by simpa [IT.at] using h
    rw [key] at h
    cases hc : x.cps[i]? with
    | none => rw [hc] at h; cases h
    | some c =>
      rw [hc] at h
      cases h
      refine ⟨(Array.getElem?_eq_some_iff.mp hc).1, fun v H' y => ?_⟩
      obtain ⟨rfl, c', h1, rfl⟩ := y
      rw [hc] at h1
      cases h1
      exact ⟨Ex.refl, R, .str _⟩
theorem jok_rng {lo : Int} {n : Nat} {β₀ : List Addr} {H₀ : Hp} : JOk G (.vals ((List.range n).map fun (k : Nat) => D.int (lo + (k : Int)))) (Itr lo n) β₀ H₀ := by
  intro β S H i e R
  refine ⟨fun h => ?_, fun d h => ?_⟩
  · have h : ((List.range n).map fun (k : Nat) => D.int (lo + (k : Int)))[i]? = none := by simpa only [IT.at, Option.some.injEq] using h
    have := List.getElem?_eq_none_iff.mp h
    show n ≤ i
    simpa using this
  · have h : ((List.range n).map fun (k : Nat) => D.int (lo + (k : Int)))[i]? = some d := by simpa only [IT.at, Option.some.injEq] using h
    obtain ⟨h1, h2⟩ := List.getElem?_eq_some_iff.mp h
    have h1' : i < n := by simpa using h1
    refine ⟨h1', fun x H' y => ?_⟩
    obtain ⟨rfl, rfl⟩ := y
    have : d = .int (lo + (i : Nat)) := by rw [← h2]; simp
    subst this
    exact ⟨Ex.refl, R, .int _⟩
theorem PIor {t t' : TI} (h : PI X tg e t) (h' : PI X tg e t') : PI X tg e (fun σ H R => t σ H R ∨ t' σ H R) := ⟨fun pins s σ H R I q => q.elim (h.run pins s σ H R I) (h'.run pins s σ H R I)⟩
/-- a walk over the value of e: what is walked is known when it is there -/
theorem ci_any (hK : X.K = G.K) (ha : PE X e (tM G W m)) : PI X tg e (iM G W (mIt m)) := by
  refine ⟨fun pins s σ H R I h => ?_⟩
  obtain ⟨β, ρ, S, RR, V, h⟩ := h
  -- the three rules at one run
  have pe : PE X e (fun σ' H' Q => ∃ Q', tM G W m σ' H' Q' ∧ ∀ x H1, Q' x H1 → Q x H1) := pe_imp ha fun σ' H' Q ⟨Q', q, hq⟩ => by
    obtain ⟨β, ρ, S, RR, V, h⟩ := q
    exact ⟨β, ρ, S, RR, V, h.imp fun d S1 β1 H1 e1 R1 h1 x rx => hq x H1 (h1 x rx)⟩
  have hp := h.bind
  generalize hr : m ρ S = r at hp
  cases r with
  | stuck => exact hp.elim
  | ex c ρ' S' =>
    refine (pi_list ha).run pins s σ H R I ⟨β, ρ, S, RR, V, ?_⟩
    rw [hr]
    exact hp
  | ok d S1 =>
    cases d with
    | tup ds =>
      refine (pi_tup ha).run pins s σ H R I ⟨β, ρ, S, RR, V, ?_⟩
      rw [hr]
      intro β1 H1 e1 R1 x rx
      cases rx with
      | tup q q2 =>
        have h1 := hp β1 H1 e1 R1
        refine ⟨_, rfl, ⟨_, by rw [hK]; exact q⟩, ?_⟩
        rw [hK]
        exact h1 β1 H1 Ex.refl R1 _ (jok_tup q q2)
    | frl ds =>
      refine (pi_list ha).run pins s σ H R I ⟨β, ρ, S, RR, V, ?_⟩
      rw [hr]
      intro β1 H1 e1 R1 x rx
      cases rx with
      | frl q q2 =>
        have h1 := hp β1 H1 e1 R1
        refine ⟨_, rfl, ⟨_, by rw [hK]; exact q.sq⟩, ?_⟩
        rw [hK]
        exact h1 β1 H1 Ex.refl R1 _ (jok_frl q q2)
    | str y =>
      refine (pi_str ha).run pins s σ H R I ⟨β, ρ, S, RR, V, ?_⟩
      rw [hr]
      intro β1 H1 e1 R1 x rx
      cases rx
      exact ⟨_, rfl, hp β1 H1 e1 R1 β1 H1 Ex.refl R1 _ jok_str⟩
    | ref n =>
      refine (pi_list ha).run pins s σ H R I ⟨β, ρ, S, RR, V, ?_⟩
      rw [hr]
      intro β1 H1 e1 R1 x rx
      cases rx with
      | ref hn =>
        have h1 := hp β1 H1 e1 R1
        simp only at h1
        split at h1
        · rename_i ds hs
          obtain ⟨xs, q1, q2⟩ := R1.get hs hn
          refine ⟨_, rfl, ⟨_, SqL.of q1⟩, ?_⟩
          rw [hK]
          exact h1 β1 H1 Ex.refl R1 _ (jok_lst hn)
        · exact h1.elim
    | non =>
      refine (pi_list ha).run pins s σ H R I ⟨β, ρ, S, RR, V, ?_⟩
      rw [hr]
      exact fun β1 H1 e1 R1 x rx => (hp β1 H1 e1 R1).elim
    | bl _ =>
      refine (pi_list ha).run pins s σ H R I ⟨β, ρ, S, RR, V, ?_⟩
      rw [hr]
      exact fun β1 H1 e1 R1 x rx => (hp β1 H1 e1 R1).elim
    | int _ =>
      refine (pi_list ha).run pins s σ H R I ⟨β, ρ, S, RR, V, ?_⟩
      rw [hr]
      exact fun β1 H1 e1 R1 x rx => (hp β1 H1 e1 R1).elim
/-- range(n), range(i, n) -/
def mRng1 (ma : MA) : MI := fun ρ S => (ma ρ S).bind fun ds S1 => match ds with
  | [.int j] => if j ≤ (lim : Int) ∧ -(2 ^ 62) ≤ j then .ok (.vals ((List.range j.toNat).map fun (k : Nat) => D.int (0 + (k : Int)))) S1 else .stuck
  | _ => .stuck
def mRng2 (ma : MA) : MI := fun ρ S => (ma ρ S).bind fun ds S1 => match ds with
  | [.int i, .int j] => if j ≤ (lim : Int) ∧ -(lim : Int) ≤ i ∧ i ≤ lim ∧ -(lim : Int) ≤ j then .ok (.vals ((List.range (j - i).toNat).map fun (k : Nat) => D.int (i + (k : Int)))) S1 else .stuck
  | _ => .stuck
theorem lim62 : (lim : Int) < 2 ^ 62 := by decide
theorem ci_rng1 (hg : Gl X "range") (hm : X.mg "range" = none) (ha : PA X [a] (tA G W mr)) (hs : starEach [a] X.env = [(false, eval a X.env)] := by rfl) : PI X tg (.Call (.Name "range" p2) [a] [] pos) (iM G W (mRng1 mr)) := by
  refine pi_imp (pi_range1 hg hm ha hs) fun σ H R h => ?_
  obtain ⟨β, ρ, S, RR, V, h⟩ := h
  refine ⟨β, ρ, S, RR, V, h.bind.imp fun ds S1 β1 H1 e1 R1 h1 vs rs => ?_⟩
  split at h1
  · obtain ⟨v, rfl, r⟩ := rs.one
    cases r
    split at h1
    · rename_i hc
      have := lim62
      exact ⟨_, rfl, hc.2, by omega, h1 β1 H1 Ex.refl R1 _ jok_rng⟩
    · exact h1.elim
  · exact h1.elim
theorem ci_rng2 (hg : Gl X "range") (hm : X.mg "range" = none) (ha : PA X [a, b] (tA G W mr)) (hs : starEach [a, b] X.env = [(false, eval a X.env), (false, eval b X.env)] := by rfl) (hs2 : starEach [b] X.env = [(false, eval b X.env)] := by rfl) : PI X tg (.Call (.Name "range" p2) [a, b] [] pos) (iM G W (mRng2 mr)) := by
  refine pi_imp (pi_range2 hg hm ha hs hs2) fun σ H R h => ?_
  obtain ⟨β, ρ, S, RR, V, h⟩ := h
  refine ⟨β, ρ, S, RR, V, h.bind.imp fun ds S1 β1 H1 e1 R1 h1 vs rs => ?_⟩
  split at h1
  · obtain ⟨v, w, rfl, r, r'⟩ := rs.two
    cases r
    cases r'
    split at h1
    · rename_i hc
      have := lim62
      exact ⟨_, _, rfl, ⟨by omega, by omega, by omega, by omega⟩, h1 β1 H1 Ex.refl R1 _ jok_rng⟩
    · exact h1.elim
  · exact h1.elim

/-! ### calls of builtins by values -/
def CallM (G : Gs) (f : List D → So → Rs D) (r : List V → Hp → VK → Prop) : Prop := ∀ (W : WX) (β : List Addr) (S : So) (H : Hp) (xs : List V) (ds : List D) (Q : VK), Rl G.K G.cl β S H → RDs G.K β H xs ds →
  Gd G W β H (f ds S) (kV G Q) → r xs H Q
def mCallB (f : List D → So → Rs D) (ma : MA) : ME := fun ρ S => (ma ρ S).bind f
theorem tM_callB {f : List D → So → Rs D} {r : List V → Hp → VK → Prop} (hm : CallM G f r) {σ : Sl} {H : Hp} {Q : VK} (h : tM G W (mCallB f mr) σ H Q) : tCB r (tA G W mr) σ H Q := by
  obtain ⟨β, ρ, S, R, V, h⟩ := h
  exact ⟨β, ρ, S, R, V, h.bind.imp fun ds S1 β1 H1 e1 R1 h1 xs rs => hm W β1 S1 H1 xs ds Q R1 rs h1⟩
theorem ce_callB {id : String} {x : Str} {f : List D → So → Rs D} {r : List V → Hp → VK → Prop} (hc : CallR X (.builtin id) r) (hf : CallM G f r) (hg : Gl X x) (hm : X.mg x = none) (hv : bootBuiltins x = some (.builtin id)) (ha : PA X (e :: es) (tA G W mr)) (hn : x ≠ "__name__" := by decide) (hdb : (x == ("__debug__" : Str)) = false := by decide)
    (he : starEach (e :: es) X.env = (false, eval e X.env) :: starEach es X.env := by rfl) (hpl : (backTo pos (starEach es X.env)).any (·.1) = false := by rfl) : PE X (.Call (.Name x p2) (e :: es) [] pos) (tM G W (mCallB f mr)) :=
  pe_imp (pe_callB hc hg hm hv ha hn hdb he hpl) fun _ _ _ h => tM_callB hf h
theorem ce_callTy {T : String} {x : Str} {f : List D → So → Rs D} {r : List V → Hp → VK → Prop} (hc : CallR X (.type T) r) (hf : CallM G f r) (hg : Gl X x) (hm : X.mg x = none) (hv : bootBuiltins x = some (.type T)) (ha : PA X (e :: es) (tA G W mr)) (hn : x ≠ "__name__" := by decide) (hdb : (x == ("__debug__" : Str)) = false := by decide)
    (he : starEach (e :: es) X.env = (false, eval e X.env) :: starEach es X.env := by rfl) (hpl : (backTo pos (starEach es X.env)).any (·.1) = false := by rfl) : PE X (.Call (.Name x p2) (e :: es) [] pos) (tM G W (mCallB f mr)) :=
  pe_imp (pe_callTy hc hg hm hv ha hn hdb he hpl) fun _ _ _ h => tM_callB hf h
/-- len -/
def lenO (S : So) (d : D) : Option Nat := match vw S d with
  | .str x => if x.length ≤ lim then some x.length else none
  | .tup ds => some ds.length
  | .lst ds => some ds.length
  | .dct kvs => some kvs.length
  | _ => none
def lenD : List D → So → Rs D
  | [d], S => match lenO S d with
    | some n => .ok (.int n) S
    | none => .stuck
  | _, _ => .stuck
def rLenM (K : PySem.W.Frag) : List V → Hp → VK → Prop := fun xs H Q => (∃ x n, xs = [x] ∧ LenV K x H n ∧ Q (.int n) H) ∨ ∃ d kvs, xs = [.ref d] ∧ H d = some (.dK kvs) ∧ Q (.int kvs.length) H
theorem oc_len : CallR X (.builtin "len") (rLenM X.K) := by
  refine call_len.or ?_
  intro pins s σ H xs us Q I r h
  obtain ⟨d, kvs, rfl, hd, q⟩ := h
  exact call_lenD pins s σ H _ us Q I r ⟨d, kvs, rfl, hd, q⟩
theorem cm_len : CallM G lenD (rLenM G.K) := by
  intro W β S H xs ds Q R rs h
  unfold lenD at h
  split at h
  · obtain ⟨v, rfl, r⟩ := rs.one
    split at h
    · rename_i n hn
      have q := h β H Ex.refl R _ (.int _)
      unfold lenO at hn
      have wp := r.vw R
      split at hn
      · rename_i x hp
        rw [hp] at wp
        obtain rfl : v = .str x := wp
        split at hn
        · rename_i hc
          cases hn
          exact .inl ⟨_, _, rfl, ⟨lim_le hc, rfl⟩, q⟩
        · cases hn
      · rename_i ds hp
        rw [hp] at wp
        cases hn
        obtain ⟨l, xs, rfl, k, m⟩ := wp
        exact .inl ⟨_, _, rfl, .inr ⟨xs, k, m.length.symm⟩, q⟩
      · rename_i ds hp
        rw [hp] at wp
        cases hn
        obtain ⟨l, xs, rfl, k, m⟩ := wp
        exact .inl ⟨_, _, rfl, .inl ⟨xs, k, m.length.symm⟩, q⟩
      · rename_i ds hp
        rw [hp] at wp
        cases hn
        obtain ⟨l, xs, rfl, k, m⟩ := wp
        refine .inr ⟨_, _, rfl, k, ?_⟩
        rw [m.length]
        exact q
      · cases hn
    · exact h.elim
  · exact h.elim
/-- int(i) -/
def intD : List D → So → Rs D
  | [.int i], S => .ok (.int i) S
  | [.bl b], S => .ok (.int (if b then 1 else 0)) S
  | _, _ => .stuck
theorem cm_int : CallM G intD (fun xs H Q => (∃ i, xs = [.int i] ∧ Q (.int i) H) ∨ ∃ k, xs = [.bl k] ∧ Q (.int (if k then 1 else 0)) H) := by
  intro W β S H xs ds Q R rs h
  unfold intD at h
  split at h
  · obtain ⟨v, rfl, r⟩ := rs.one
    cases r
    exact .inl ⟨_, rfl, h β H Ex.refl R _ (.int _)⟩
  · obtain ⟨v, rfl, r⟩ := rs.one
    cases r
    exact .inr ⟨_, rfl, h β H Ex.refl R _ (.int _)⟩
  · exact h.elim
/-- str(i), str(x) -/
def strD : List D → So → Rs D
  | [.int i], S => if i.natAbs.log2 < 1920 then .ok (.str (toString i)) S else .stuck
  | [.str x], S => .ok (.str x) S
  | _, _ => .stuck
theorem oc_str : CallR X (.type "str") (fun xs H Q => (∃ i, xs = [.int i] ∧ i.natAbs.log2 < 1920 ∧ Q (.str (toString i)) H) ∨ ∃ a, xs = [.str a] ∧ Q (.str a) H) := call_str_int.or SkE.call_str_str
theorem cm_str : CallM G strD (fun xs H Q => (∃ i, xs = [.int i] ∧ i.natAbs.log2 < 1920 ∧ Q (.str (toString i)) H) ∨ ∃ a, xs = [.str a] ∧ Q (.str a) H) := by
  intro W β S H xs ds Q R rs h
  unfold strD at h
  split at h
  · obtain ⟨v, rfl, r⟩ := rs.one
    cases r
    split at h
    · rename_i hc
      exact .inl ⟨_, rfl, hc, h β H Ex.refl R _ (.str _)⟩
    · exact h.elim
  · obtain ⟨v, rfl, r⟩ := rs.one
    cases r
    exact .inr ⟨_, rfl, h β H Ex.refl R _ (.str _)⟩
  · exact h.elim
/-- list(x), tuple(x) of a list or a tuple -/
def seqO (S : So) (d : D) : Option (List D) := match vw S d with
  | .tup ds => some ds
  | .lst ds => some ds
  | _ => none
def listD : List D → So → Rs D
  | [d], S => match seqO S d with
    | some ds => .ok (.ref S.length) (S ++ [.lst ds])
    | none => .stuck
  | _, _ => .stuck
def tupleD : List D → So → Rs D
  | [d], S => match seqO S d with
    | some ds => .ok (.tup ds) S
    | none => .stuck
  | _, _ => .stuck
theorem seq_rel {K : PySem.W.Frag} {cl : Str → Option Addr} {β : List Addr} {S : So} {H : Hp} (R : Rl K cl β S H) {v : V} {d : D} {ds : List D} (r : RD K β H v d) (h : seqO S d = some ds) : ∃ p xs, v = .ref p ∧ (SqL K H p xs ∨ SqT K H p xs) ∧ RDs K β H xs ds := by
  unfold seqO at h
  have wp := r.vw R
  generalize hp : vw S d = p at *
  cases p with
  | tup ds =>
    cases h
    obtain ⟨l, xs, rfl, k, m⟩ := wp
    exact ⟨l, xs, rfl, .inr k, m⟩
  | lst ds =>
    cases h
    obtain ⟨l, xs, rfl, k, m⟩ := wp
    exact ⟨l, xs, rfl, .inl k, m⟩
  | _ => cases h
theorem cm_list : CallM G listD (fun xs H Q => ∃ p ys, xs = [.ref p] ∧ (SqL G.K H p ys ∨ SqT G.K H p ys) ∧ ∀ l, H l = none → Q (.ref l) (upd H l (.lst ys))) := by
  intro W β S H xs ds Q R rs h
  unfold listD at h
  split at h
  · obtain ⟨v, rfl, r⟩ := rs.one
    split at h
    · rename_i ds hs
      obtain ⟨p, xs, rfl, q, m⟩ := seq_rel R r hs
      refine ⟨p, xs, rfl, q, fun l hl => ?_⟩
      exact h (β ++ [l]) _ (Ex.new hl) (R.new hl ⟨_, upd_same, m.mono (Ex.new hl).toEw⟩) _ (.ref (last_of R.len))
    · exact h.elim
  · exact h.elim
theorem cm_tuple : CallM G tupleD (fun xs H Q => ∃ p ys, xs = [.ref p] ∧ ((SqL G.K H p ys ∧ ∀ l, H l = none → Q (.ref l) (upd H l (.tup ys))) ∨ (SqT G.K H p ys ∧ Q (.ref p) H))) := by
  intro W β S H xs ds Q R rs h
  unfold tupleD at h
  split at h
  · obtain ⟨v, rfl, r⟩ := rs.one
    split at h
    · rename_i ds hs
      obtain ⟨p, xs, rfl, q, m⟩ := seq_rel R r hs
      rcases q with q | q
      · refine ⟨p, xs, rfl, .inl ⟨q, fun l hl => ?_⟩⟩
        exact h _ _ (Ex.fresh hl) (R.fresh hl) _ (.tup (.inl (.inl upd_same)) (m.mono (Ex.fresh hl).toEw))
      · exact ⟨p, xs, rfl, .inr ⟨q, h β H Ex.refl R _ (.tup q m)⟩⟩
    · exact h.elim
  · exact h.elim
/-- min, max of two -/
def minD : List D → So → Rs D
  | [.int i, .int j], S => .ok (.int (if j < i then j else i)) S
  | _, _ => .stuck
def maxD : List D → So → Rs D
  | [.int i, .int j], S => .ok (.int (if j > i then j else i)) S
  | _, _ => .stuck
theorem cm_min : CallM G minD (fun xs H Q => ∃ i j, xs = [.int i, .int j] ∧ Q (.int (if j < i then j else i)) H) := by
  intro W β S H xs ds Q R rs h
  unfold minD at h
  split at h
  · obtain ⟨v, w, rfl, r, r'⟩ := rs.two
    cases r
    cases r'
    exact ⟨_, _, rfl, h β H Ex.refl R _ (.int _)⟩
  · exact h.elim
theorem cm_max : CallM G maxD (fun xs H Q => ∃ i j, xs = [.int i, .int j] ∧ Q (.int (if j > i then j else i)) H) := by
  intro W β S H xs ds Q R rs h
  unfold maxD at h
  split at h
  · obtain ⟨v, w, rfl, r, r'⟩ := rs.two
    cases r
    cases r'
    exact ⟨_, _, rfl, h β H Ex.refl R _ (.int _)⟩
  · exact h.elim

/-! ### isinstance of builtin types -/
inductive Ty where
  | non | bool | int | str | tup | lst | dct
  deriving DecidableEq
def tyS : Ty → String
  | .non => "NoneType"
  | .bool => "bool"
  | .int => "int"
  | .str => "str"
  | .tup => "tuple"
  | .lst => "list"
  | .dct => "dict"
def tyO (S : So) : D → Option Ty
  | .non => some .non
  | .bl _ => some .bool
  | .int _ => some .int
  | .str _ => some .str
  | .tup _ => some .tup
  | .frl _ => some .lst
  | .ref n => match S[n]? with
    | some (.lst _) => some .lst
    | some (.dct _) => some .dct
    | some (.lck _) => some .dct
    | _ => none
def isTy : Ty → Ty → Bool
  | .non, .non => true
  | .bool, .bool => true
  | .bool, .int => true
  | .int, .int => true
  | .str, .str => true
  | .tup, .tup => true
  | .lst, .lst => true
  | .dct, .dct => true
  | _, _ => false
theorem kit_tys {K : PySem.W.Frag} (a b : Ty) (hb : b ≠ .non) : PySem.W.kitOne K (.type (tyS a)) (.type (tyS b)) = some (isTy a b) := by
  refine kit_ty ?_
  cases a <;> cases b <;> first | exact absurd rfl hb | (decide +kernel)
theorem sqT_ty {K : PySem.W.Frag} {H : Hp} {a : Addr} {xs : List V} (h : SqT K H a xs) : TyX K H (.ref a) (.type "tuple") := by
  rcases h with (h | ⟨o, h⟩) | ⟨o, _, _, h, c, _⟩
  · exact .base (.tup h)
  · exact .fTuple h
  · exact .kTuple h c
theorem sqL_ty {K : PySem.W.Frag} {H : Hp} {a : Addr} {xs : List V} (h : SqL K H a xs) : TyX K H (.ref a) (.type "list") := by
  rcases h with (h | ⟨o, h⟩) | ⟨o, _, _, h, c, _⟩
  · exact .base (.lst h)
  · exact .base (.frz h)
  · exact .kList h c
theorem RD.ty {K : PySem.W.Frag} {cl : Str → Option Addr} {β : List Addr} {S : So} {H : Hp} (R : Rl K cl β S H) {v : V} {d : D} {t : Ty} (r : RD K β H v d) (h : tyO S d = some t) : TyX K H v (.type (tyS t)) := by
  cases r with
  | non => cases h; exact .base .non
  | bl b => cases h; exact .base (.bl b)
  | int i => cases h; exact .base (.int i)
  | str x => cases h; exact .base (.str x)
  | tup q m => cases h; exact sqT_ty q
  | frl q m => cases h; exact sqL_ty q.sq
  | @ref n a hn =>
    unfold tyO at h
    simp only at h
    split at h
    · rename_i ds hs
      cases h
      obtain ⟨xs, q1, q2⟩ := R.get hs hn
      exact .base (.lst q1)
    · rename_i ds hs
      cases h
      obtain ⟨xs, q1, q2⟩ := R.get hs hn
      exact .base (.dK q1)
    · rename_i ds hs
      cases h
      obtain ⟨xs, o, q1, q2⟩ := R.get hs hn
      exact .fDict q1
    · cases h
def mIs (T : Ty) (m : ME) : ME := m1 (fun d S => match tyO S d with
  | some t => .ok (.bl (isTy t T)) S
  | none => .stuck) m
theorem ce_isi (T : Ty) {x : Str} {p3 : Pos} (hT : T ≠ .non) (hg : Gl X "isinstance") (hm : X.mg "isinstance" = none) (hK : X.K = G.K) (hx : Gl X x) (hmx : X.mg x = none) (hv : bootBuiltins x = some (.type (tyS T))) (ha : PE X a (tM G W ma)) (hn : x ≠ "__name__" := by decide) (hd : (x == ("__debug__" : Str)) = false := by decide)
    (he : starEach [a, .Name x p3] X.env = (false, eval a X.env) :: starEach [.Name x p3] X.env := by rfl) (he2 : starEach [.Name x p3] X.env = (false, eval (.Name x p3) X.env) :: starEach [] X.env := by rfl) (hpl : (backTo pos (starEach [.Name x p3] X.env)).any (·.1) = false := by rfl) :
    PE X (.Call (.Name "isinstance" p2) [a, .Name x p3] [] pos) (tM G W (mIs T ma)) := by
  refine pe_imp (pe_callB call_isi hg hm PyProof.Rows.boot_isinstance (pa_cons ha (pa_cons (pe_bltn (v := .ty (tyS T)) hx hmx hv rfl hn hd) pa_nil he2) he) (by decide) (by decide) he hpl) fun σ H Q h => ?_
  obtain ⟨β, ρ, S, R, V, h⟩ := h
  refine ⟨β, ρ, S, R, V, h.bind.imp fun d S1 β1 H1 e1 R1 h1 x rx => ?_⟩
  dsimp only at h1
  split at h1
  · rename_i t ht
    refine ⟨x, .ty (tyS T), .type (tyS t), .type (tyS T), isTy t T, rfl, .ty _, ?_, kit_tys t T hT, h1 β1 H1 Ex.refl R1 _ (.bl _)⟩
    rw [hK]
    exact rx.ty R1 ht
  · exact h1.elim
end
end Mi
namespace Mi
open PySem PySem.Spec PyProof.Rows L2
abbrev W0 : WX := fun _ _ _ _ => False
/-- what holds of a context all along -/
structure Cn (X : Cx) (G : Gs) (W : WX) (k : Nat) : Prop where
  hK : X.K = G.K
  hr : Room k X.A
  calm : X.calm = true
  own : PassesOwn (model X.prog X.w) X.A X.env X.xe
  tk : Takes X W
  nd : X.N.Nodup
section
variable {X : Cx} {G : Gs} {W : WX} {k : Nat} {a b e o : Expr} {es : List Expr} {m ma mb mo : ME} {mr : MA} {pos p2 apos : Pos} {tg : Expr}
theorem Cn.hu (C : Cn X G W k) : X.A.units + 64 < cLine := C.hr.units
theorem Cn.blk (C : Cn X G W k) (s : Shared) (H : Hp) (sc : Scope) (env : Env) (fp : List Addr) : Cn (X.blk s H sc env fp) G W0 k :=
  ⟨C.hK, C.hr, C.calm, PassesOwn.never, takes0, C.nd⟩
theorem Cn.pass (C : Cn X G W k) (σ : Sl) : PassesAt (L2.CX X.prog X.w) X σ (WE W σ) := passAt C.tk σ
theorem cn_of {P : Program} {w : World} {K : PySem.W.Frag} {mg : Str → Option Value} {base : Heap} {N : List Str} {qual : Str} {scope : Scope} {f : Addr} {cd : Value} {A : Around} {outer : List Env} {s : Shared} {H : Hp} {E : XK} {cl : Str → Option Addr}
    (hr : Room k (A.deeper (envOfC qual scope s.heap.objs.size f cd))) (nd : N.Nodup) : Cn (cxOf (L2.CX P w) P w K mg base N qual scope f cd A outer s H E) { K := K, cl := cl } (fun cls d _ H' => E cls d H') k :=
  ⟨rfl, hr, rfl, passes_of rfl, takes_of rfl rfl rfl rfl, nd⟩

/-! ### methods of builtins by values -/
def MethM (G : Gs) (T : String) (f : D → List D → So → Rs D) (r : V → List V → Hp → VK → Prop) : Prop := ∀ (W : WX) (β : List Addr) (S : So) (H : Hp) (x : V) (xs : List V) (d : D) (ds : List D) (Q : VK), Rl G.K G.cl β S H → RD G.K β H x d → RDs G.K β H xs ds →
  Gd G W β H (f d ds S) (kV G Q) → r x xs H Q
def mMeth (ok : So → D → Bool) (f : D → List D → So → Rs D) (mo : ME) (ma : MA) : ME := fun ρ S => (mo ρ S).bind fun d S1 => if ok S1 d then (ma ρ S1).bind fun ds S2 => f d ds S2 else .stuck
def isLst (S : So) (d : D) : Bool := match d with
  | .ref n => match S[n]? with
    | some (.lst _) => true
    | _ => false
  | _ => false
def isStr (S : So) (d : D) : Bool := match d with
  | .str _ => true
  | _ => false
def isDct (S : So) (d : D) : Bool := match d with
  | .ref n => match S[n]? with
    | some (.dct _) => true
    | _ => false
  | _ => false
theorem ty_lst {K : PySem.W.Frag} {cl : Str → Option Addr} {β : List Addr} {S : So} {H : Hp} {x : V} {d : D} (R : Rl K cl β S H) (r : RD K β H x d) (h : isLst S d = true) : tyV K "list" x H := by
  unfold isLst at h
  split at h
  · rename_i n
    cases r with
    | ref hn =>
      split at h
      · rename_i ds hs
        obtain ⟨xs, q, _⟩ := R.get hs hn
        exact .inl ⟨rfl, _, SqL.of q⟩
      · cases h
  · cases h
theorem ty_str {K : PySem.W.Frag} {cl : Str → Option Addr} {β : List Addr} {S : So} {H : Hp} {x : V} {d : D} (R : Rl K cl β S H) (r : RD K β H x d) (h : isStr S d = true) : tyV K "str" x H := by
  unfold isStr at h
  split at h
  · cases r
    rfl
  · cases h
theorem ty_dct {K : PySem.W.Frag} {cl : Str → Option Addr} {β : List Addr} {S : So} {H : Hp} {x : V} {d : D} (R : Rl K cl β S H) (r : RD K β H x d) (h : isDct S d = true) : tyV K "dict" x H := by
  unfold isDct at h
  split at h
  · rename_i n
    cases r with
    | ref hn =>
      split at h
      · rename_i ds hs
        obtain ⟨xs, q, _⟩ := R.get hs hn
        exact .inr (.inr (.inl ⟨rfl, .inl ⟨_, q⟩⟩))
      · cases h
  · cases h
theorem ce_meth {T id : String} {name : Str} {ok : So → D → Bool} {f : D → List D → So → Rs D} {r : V → List V → Hp → VK → Prop} (pa : PlainAttrs T) (slot : Slot T name id) (hty : typeOf (.builtin id) = pure (.type "method_descriptor")) (hm : MtR X id r) (hK : X.K = G.K)
    (hT : ∀ (β : List Addr) (S : So) (H : Hp) (x : V) (d : D), Rl G.K G.cl β S H → RD G.K β H x d → ok S d = true → tyV G.K T x H) (hf : MethM G T f r) (ho : PE X o (tM G W mo)) (ha : PA X (e :: es) (tA G W mr))
    (hbase : attributeBase o name X.env (eval o X.env) = eval o X.env := by rfl)
    (hfew : ((backTo pos (starEach (e :: es) X.env)).all (fun x => !x.1) && (backToKw pos (keywordEach [] X.env)).all (fun x => x.1.isSome)
      && decide ((e :: es).length + ([] : List Keyword).length + (if ([] : List Keyword).isEmpty then 0 else 1) < 30)) = true := by rfl)
    (hline : (apos.endLine == pos.line) = true := by rfl) (hs : starEach (e :: es) X.env = (false, eval e X.env) :: starEach es X.env := by rfl) (hplain : (backTo pos (starEach es X.env)).any (·.1) = false := by rfl) :
    PE X (.Call (.Attribute o name apos) (e :: es) [] pos) (tM G W (mMeth ok f mo mr)) := by
  refine pe_imp (pe_bm pa slot hty hm ho ha hbase hfew hline hs hplain) fun σ H Q h => ?_
  obtain ⟨β, ρ, S, R, V, h⟩ := h
  refine ⟨β, ρ, S, R, V, h.bind.imp fun d S1 β1 H1 e1 R1 h1 x rx => ?_⟩
  split at h1
  · rename_i hok
    refine ⟨by rw [hK]; exact hT β1 S1 H1 x d R1 rx hok, β1, ρ, S1, R1, V.mono e1, h1.bind.imp fun ds S2 β2 H2 e2 R2 h2 xs rs => ?_⟩
    exact hf W β2 S2 H2 x xs d ds Q R2 (rx.mono e2) rs h2
  · exact h1.elim
theorem ce_meth0 {T id : String} {name : Str} {ok : So → D → Bool} {f : D → List D → So → Rs D} {r : V → List V → Hp → VK → Prop} (pa : PlainAttrs T) (slot : Slot T name id) (hty : typeOf (.builtin id) = pure (.type "method_descriptor")) (hm : MtR X id r) (hK : X.K = G.K)
    (hT : ∀ (β : List Addr) (S : So) (H : Hp) (x : V) (d : D), Rl G.K G.cl β S H → RD G.K β H x d → ok S d = true → tyV G.K T x H) (hf : MethM G T f r) (ho : PE X o (tM G W mo))
    (hbase : attributeBase o name X.env (eval o X.env) = eval o X.env := by rfl) (hline : (apos.endLine == pos.line) = true := by rfl) :
    PE X (.Call (.Attribute o name apos) [] [] pos) (tM G W (mMeth ok f mo mNilA)) := by
  refine pe_imp (pe_bm0 pa slot hty hm ho hbase hline) fun σ H Q h => ?_
  obtain ⟨β, ρ, S, R, V, h⟩ := h
  refine ⟨β, ρ, S, R, V, h.bind.imp fun d S1 β1 H1 e1 R1 h1 x rx => ?_⟩
  split at h1
  · rename_i hok
    exact ⟨by rw [hK]; exact hT β1 S1 H1 x d R1 rx hok, hf W β1 S1 H1 x [] d [] Q R1 rx .nil h1⟩
  · exact h1.elim
/-- xs.append(y) -/
def appendD (d : D) (as : List D) (S : So) : Rs D := match d, as with
  | .ref n, [y] => match S[n]? with
    | some (.lst ds) => if ds.length < lim then .ok .non (S.set n (.lst (ds ++ [y]))) else .stuck
    | _ => .stuck
  | _, _ => .stuck
theorem mm_append : MethM G "list" appendD rAppend := by
  intro W β S H x xs d ds Q R rx rs h
  unfold appendD at h
  split at h
  · rename_i n y
    cases rx with
    | ref hn =>
      obtain ⟨v, rfl, ry⟩ := rs.one
      split at h
      · rename_i l hl
        obtain ⟨zs, q1, q2⟩ := R.get hl hn
        split at h
        · rename_i hc
          refine ⟨_, zs, v, rfl, rfl, q1, by rw [q2.length]; exact Nat.lt_trans hc lim_line, ?_⟩
          obtain ⟨R', e'⟩ := R.upd (ho := .lst (zs ++ [v])) (o' := .lst (l ++ [y])) hn (fun o u z => by rw [q1] at z; cases z) fun e' => ⟨_, upd_same, (q2.append (.cons ry .nil)).mono e'⟩
          exact h _ _ e' R' _ .non
        · exact h.elim
      · exact h.elim
  · exact h.elim
/-- sep.join(texts) -/
def strsO : List D → Option (List Str)
  | [] => some []
  | .str x :: ds => (strsO ds).map (x :: ·)
  | _ => none
def joinD (d : D) (as : List D) (S : So) : Rs D := match d, as with
  | .str a, [y] => match seqO S y with
    | some ds => match strsO ds with
      | some ys => if (ys.map (·.length)).sum + ys.length * a.length ≤ lim then .ok (.str (Txt.join a ys)) S else .stuck
      | none => .stuck
    | none => .stuck
  | _, _ => .stuck
theorem strs_rel {K : PySem.W.Frag} {β : List Addr} {H : Hp} : ∀ {xs : List V} {ds : List D} {ys : List Str}, RDs K β H xs ds → strsO ds = some ys → xs = ys.map V.str
  | _, _, ys, .nil, h => by cases h; rfl
  | _, _, ys, .cons (d := d) r m, h => by
    unfold strsO at h
    split at h
    · rename_i hh
      cases hh
    · rename_i x ds hh
      cases hh
      rename_i ds2 _
      cases r
      cases hq : strsO ds2 with
      | none => rw [hq] at h; cases h
      | some zs =>
        rw [hq] at h
        cases h
        rw [strs_rel m hq]
        rfl
    · cases h
theorem mm_join : MethM G "str" joinD (fun x xs H Q => ∃ a p, ∃ ys : List Str, x = .str a ∧ xs = [.ref p] ∧ (SqL G.K H p (ys.map V.str) ∨ SqT G.K H p (ys.map V.str)) ∧
    (ys.map (·.length)).sum + ys.length * a.length ≤ 16777216 ∧ Q (.str (Txt.join a ys)) H) := by
  intro W β S H x xs d ds Q R rx rs h
  unfold joinD at h
  split at h
  · rename_i a y
    cases rx
    obtain ⟨v, rfl, ry⟩ := rs.one
    split at h
    · rename_i es hes
      obtain ⟨p, zs, rfl, q, m⟩ := seq_rel R ry hes
      split at h
      · rename_i ys hys
        split at h
        · rename_i hc
          have := strs_rel m hys
          subst this
          exact ⟨a, p, ys, rfl, rfl, q, Nat.le_trans hc (by decide), h β H Ex.refl R _ (.str _)⟩
        · exact h.elim
      · exact h.elim
    · exact h.elim
  · exact h.elim

/-! ### f-strings -/
def fmtD (d : D) (S : So) : Rs D := match d with
  | .str x => if x.length ≤ lim then .ok (.str x) S else .stuck
  | .int i => if i.natAbs.log2 < 1920 then .ok (.str (toString i)) S else .stuck
  | _ => .stuck
theorem ce_fmt (ha : PE X a (tM G W ma)) : PE X (.FormattedValue a (-1) none pos) (tM G W (m1 fmtD ma)) := by
  refine pe_imp (pe_fmt ha) fun σ H Q h => ?_
  obtain ⟨β, ρ, S, R, V, h⟩ := h
  refine ⟨β, ρ, S, R, V, h.bind.imp fun d S1 β1 H1 e1 R1 h1 x rx => ?_⟩
  unfold fmtD at h1
  split at h1
  · cases rx
    split at h1
    · rename_i hc
      exact .inl ⟨_, rfl, lim_le hc, h1 β1 H1 Ex.refl R1 _ (.str _)⟩
    · exact h1.elim
  · cases rx
    split at h1
    · rename_i hc
      exact .inr ⟨_, rfl, hc, h1 β1 H1 Ex.refl R1 _ (.str _)⟩
    · exact h1.elim
  · exact h1.elim
inductive MJ (X : Cx) (G : Gs) (W : WX) : List Expr → List ME → Prop where
  | nil : MJ X G W [] []
  | cons {e : Expr} {m : ME} {es : List Expr} {ms : List ME} (h : PE X e (tM G W m)) (r : MJ X G W es ms) : MJ X G W (e :: es) (m :: ms)
theorem MJ.pj {es : List Expr} {ms : List ME} (h : MJ X G W es ms) : PJ X es (ms.map (tM G W)) := by
  induction h with
  | nil => exact .nil
  | cons h r ih => exact .cons h ih
def joinGo : List ME → Str → ME
  | [], acc => fun _ S => .ok (.str acc) S
  | m :: ms, acc => fun ρ S => (m ρ S).bind fun d S1 => match d with
    | .str y => if (acc ++ y).length ≤ lim then joinGo ms (acc ++ y) ρ S1 else .stuck
    | _ => .stuck
def mJoin (ms : List ME) : ME := joinGo ms Str.empty
theorem tM_join {Q : VK} : ∀ {ms : List ME} {acc : Str} {σ : Sl} {H : Hp}, tM G W (joinGo ms acc) σ H Q → tJs (ms.map (tM G W)) acc σ H (fun out H1 => Q (.str out) H1)
  | [], acc, σ, H, h => by
    obtain ⟨β, ρ, S, R, V, h⟩ := h
    exact h β H Ex.refl R _ (.str _)
  | m :: ms, acc, σ, H, h => by
    obtain ⟨β, ρ, S, R, V, h⟩ := h
    refine ⟨β, ρ, S, R, V, h.bind.imp fun d S1 β1 H1 e1 R1 h1 x rx => ?_⟩
    split at h1
    · cases rx
      split at h1
      · rename_i hc
        exact ⟨_, rfl, lim_le hc, tM_join ⟨β1, ρ, S1, R1, V.mono e1, h1⟩⟩
      · exact h1.elim
    · exact h1.elim
theorem ce_joined {v1 v2 : Expr} {rest : List Expr} {ms : List ME} (h : MJ X G W (v1 :: v2 :: rest) ms) : PE X (.JoinedStr (v1 :: v2 :: rest) pos) (tM G W (mJoin ms)) := pe_imp (pe_joined h.pj) fun σ H Q q => tM_join q
theorem ce_joined1 (h : PE X a (tM G W ma)) : PE X (.JoinedStr [a] pos) (tM G W ma) := pe_joined1 h

/-! ### calls of the program's own functions -/
def mCall (mf : MF) (n : Nat) (dds : List D) (ma : MA) : ME := fun ρ S => (ma ρ S).bind fun ds S1 => if (ds ++ dds).length = n then (match mf (ds ++ dds) S1 with
  | .ok d S2 => .ok d S2
  | .ex c _ S2 => .ex c ρ S2
  | .stuck => .stuck) else .stuck
/-- values of the written part that defaults are -/
def Dfl (K : PySem.W.Frag) (dvs : List V) (dds : List D) : Prop := ∀ (β : List Addr) (H : Hp), RDs K β H dvs dds
theorem sp_call {mf : MF} {n : Nat} {dds : List D} {dvs : List V} (hd : Dfl G.K dvs dds) {σ : Sl} {ρ : Ro} {β : List Addr} {S : So} {H : Hp} {vs : List V} {ds : List D} {Q : VK} (R : Rl G.K G.cl β S H) (V : RVs G β H σ ρ) (rs : RDs G.K β H vs ds)
    (h : Gd G W β H (if (ds ++ dds).length = n then (match mf (ds ++ dds) S with
      | .ok d S2 => .ok d S2
      | .ex c _ S2 => .ex c ρ S2
      | .stuck => .stuck : Rs D) else .stuck) (kV G Q)) : spM G.K G.cl n mf (vs ++ dvs) H Q (WE W σ) := by
  split at h
  · rename_i hn
    refine ⟨β, ds ++ dds, S, R, rs.append (hd β H), hn, ?_⟩
    cases hm : mf (ds ++ dds) S with
    | stuck => rw [hm] at h; exact h.elim
    | ok d S2 => rw [hm] at h; exact h
    | ex c ρ' S2 =>
      rw [hm] at h
      exact fun β' H' σ' cls d e' R' V' x => h β' H' σ cls d e' R' (V.mono e'.toEw) x
  · exact h.elim
theorem ce_call {f : Addr} {fd : FuncData} {ps : List Str} {n : Nat} {mf : MF} {dvs : List V} {dvals : List Value} {dds : List D} {x : Str} {j : Nat} (F : FnOk X.prog X.w X.K X.mg X.base (L2.CX X.prog X.w) j f fd ps (spM G.K G.cl n mf)) (C : Cn X G W k) (hj : j ≤ k) (hg : Gl X x) (hm : X.mg x = some (.ref f)) (hk : PySem.W.keepIn X.K (.ref f) = true)
    (hb : Binds X.K fd ps dvals) (hd : Vals dvs dvals) (hdd : Dfl G.K dvs dds) (ha : PA X (e :: es) (tA G W mr)) (hdb : (x == ("__debug__" : Str)) = false := by decide) (he : starEach (e :: es) X.env = (false, eval e X.env) :: starEach es X.env := by rfl) (hpl : (backTo pos (starEach es X.env)).any (·.1) = false := by rfl) :
    PE X (.Call (.Name x p2) (e :: es) [] pos) (tM G W (mCall mf n dds mr)) := by
  refine pe_imp (pe_callSD F (C.hr.mono hj) hg hm hk hb hd (fun σ => C.pass σ) ha hdb he hpl) fun σ H Q h => ?_
  obtain ⟨β, ρ, S, R, V, h⟩ := h
  refine ⟨β, ρ, S, R, V, h.bind.imp fun ds S1 β1 H1 e1 R1 h1 xs rs => ?_⟩
  exact sp_call hdd R1 (V.mono e1.toEw) rs h1
theorem ce_call0 {f : Addr} {fd : FuncData} {ps : List Str} {n : Nat} {mf : MF} {dvs : List V} {dvals : List Value} {dds : List D} {x : Str} {j : Nat} (F : FnOk X.prog X.w X.K X.mg X.base (L2.CX X.prog X.w) j f fd ps (spM G.K G.cl n mf)) (C : Cn X G W k) (hj : j ≤ k) (hg : Gl X x) (hm : X.mg x = some (.ref f)) (hk : PySem.W.keepIn X.K (.ref f) = true)
    (hb : Binds X.K fd ps dvals) (hd : Vals dvs dvals) (hdd : Dfl G.K dvs dds) (hdb : (x == ("__debug__" : Str)) = false := by decide) :
    PE X (.Call (.Name x p2) [] [] pos) (tM G W (mCall mf n dds mNilA)) := by
  refine ⟨fun pins s σ H Q I h => ?_⟩
  obtain ⟨β, ρ, S, R, V, h⟩ := h
  refine wpAny_Call_Name_kw (ld_glob I hg hm ?_ hdb)
  refine PySem.W.callWith_K0 I.kIn hk ?_
  exact run_fnSD (us := []) F (C.hr.mono hj) hb hd (C.pass σ) I .nil (sp_call hdd R V .nil h)

/-! ### a def by its body -/
def mFn (n N : Nat) (s : MS) : MF := fun ds S => (s (ds.map some ++ List.replicate (N - n) none) S).bind fun p S1 => match p.1 with
  | .nx => .ok .non S1
  | .rt d => .ok d S1
  | _ => .stuck
theorem start_rel {K : PySem.W.Frag} {cl : Str → Option Addr} {β : List Addr} {H : Hp} {vs : List V} {ds : List D} {N : List Str} (rs : RDs K β H vs ds) : RVs { K := K, cl := cl } β H (L2.start N vs) (ds.map some ++ List.replicate (N.length - ds.length) none) := by
  have hl := rs.length
  refine ⟨by unfold L2.start; simp [hl], fun i d h => ?_, fun p hp => by simp at hp, fun t ht => by simp at ht⟩
  by_cases hi : i < ds.length
  · rw [List.getElem?_append_left (by simpa using hi), List.getElem?_map] at h
    cases hd : ds[i]? with
    | none => rw [hd] at h; cases h
    | some d' =>
      rw [hd] at h
      cases h
      obtain ⟨v, h1, h2⟩ := rs.get hd
      refine ⟨v, ?_, h2⟩
      unfold L2.start
      rw [List.getElem?_append_left (by simpa [hl] using hi), List.getElem?_map, h1]
      rfl
  · rw [List.getElem?_append_right (by simpa using Nat.le_of_not_lt hi)] at h
    by_cases h2 : i - (ds.map some).length < N.length - ds.length
    · rw [List.getElem?_replicate, if_pos h2] at h
      cases h
    · rw [List.getElem?_replicate, if_neg h2] at h
      cases h
theorem fn_ok {P : Program} {w : World} {K : PySem.W.Frag} {mg : Str → Option Value} {base : Heap} {cl : Str → Option Addr} {x qual : Str} {st : Stmt} {f : Addr} {fd : FuncData} {N ps : List Str} {k n NN : Nat} {s : MS} (F : Fun K x qual st f fd) (S : FnScope N ps (defScope st)) (hn : ps.length = n) (hN : N.length = NN)
    (hbody : ∀ (cdv : Value) (A : Around) (outer : List Env) (sh : Shared) (H : Hp) (E : XK), Cn (cxOf (L2.CX P w) P w K mg base N qual (defScope st) f cdv A outer sh H E) { K := K, cl := cl } (fun cls d _ H' => E cls d H') k →
      PSs (cxOf (L2.CX P w) P w K mg base N qual (defScope st) f cdv A outer sh H E) (defBody st) (sM { K := K, cl := cl } (fun cls d _ H' => E cls d H') s)) : FnOk P w K mg base (L2.CX P w) (k + 1) f fd ps (spM K cl n (mFn n NN s)) := by
  refine F.okX S (fun vs H Q E h => ?_) (fun cdv A outer sh H vs Q E hr h => ⟨_, hbody cdv A outer sh H E (cn_of hr S.nd), ?_⟩)
  · obtain ⟨β, ds, S, R, rs, hl, _⟩ := h
    rw [rs.length, hl, hn]
  · obtain ⟨β, ds, S1, R, rs, hl, h⟩ := h
    subst hN
    refine ⟨β, _, S1, R, start_rel rs, ?_⟩
    unfold mFn at h
    rw [← hl] at h
    refine Gd.imp h.bind fun p S2 β2 H2 e2 R2 h2 => ?_
    obtain ⟨fl, ρ2⟩ := p
    cases fl with
    | nx => exact fun σ' V' => h2 β2 H2 Ex.refl R2 _ .non
    | rt d => exact fun v r => h2 β2 H2 Ex.refl R2 _ r
    | bk => exact h2.elim
    | ct => exact h2.elim
end
end Mi
namespace Mi
open PySem PySem.Spec PyProof.Rows L2
/-! ### list comprehensions -/
def wipeR (ρ : Ro) : List Nat → Ro
  | [] => ρ
  | v :: vs => (wipeR ρ vs).set v none
/-- binding within a block's own slots -/
def BindC (G : Gs) (vs : List Nat) (b : Bnd) (g : TG) : Prop := ∀ (β : List Addr) (S : So) (H : Hp) (σ : Sl) (ρ ρ' : Ro) (v : V) (d : D) (Q : Sl → Hp → Prop), Rl G.K G.cl β S H → RVs G β H σ ρ → RD G.K β H v d → b d ρ = some ρ' →
  (∀ σ', RVs G β H σ' ρ' → wipe σ' vs = wipe σ vs → Q σ' H) → g v σ H Q
theorem wipe_set {σ : Sl} {i : Nat} {x : Option V} : ∀ {vs : List Nat}, i ∈ vs → wipe (σ.set i x) vs = wipe σ vs
  | v :: vs, h => by
    unfold wipe
    by_cases hv : i ∈ vs
    · rw [wipe_set hv]
    · have : i = v := by rcases List.mem_cons.mp h with z | z; exact z; exact absurd z hv
      subst this
      have key : ∀ (vs : List Nat), i ∉ vs → wipe (σ.set i x) vs = (wipe σ vs).set i x := by
        intro vs
        induction vs with
        | nil => intro _; rfl
        | cons w ws ih =>
          intro hw
          simp only [List.mem_cons, not_or] at hw
          show (wipe (σ.set i x) ws).set w none = ((wipe σ ws).set w none).set i x
          rw [ih hw.2, List.set_comm _ _ hw.1]
      rw [key vs hv, List.set_set]
theorem bc_name {G : Gs} {i : Nat} {vs : List Nat} (hf : noFx G i) (hi : i ∈ vs) : BindC G vs (bN i) (gName i) := by
  intro β S H σ ρ ρ' v d Q R V r e h
  cases e
  exact h _ (V.set r hf) (wipe_set hi)
theorem bc_list {G : Gs} {β : List Addr} {H : Hp} {ws : List Nat} : ∀ (is : List Nat) (_ : ∀ i ∈ is, noFx G i) (_ : ∀ i ∈ is, i ∈ ws) (ds : List D) (vs : List V) (σ : Sl) (ρ ρ' : Ro) (Q : Sl → Hp → Prop), RVs G β H σ ρ → RDs G.K β H vs ds → bL is ds ρ = some ρ' →
    (∀ σ', RVs G β H σ' ρ' → wipe σ' ws = wipe σ ws → Q σ' H) → gL is vs σ H Q
  | [], _, _, [], vs, σ, ρ, ρ', Q, V, r, e, h => by
    cases r
    cases e
    exact ⟨rfl, h _ V rfl⟩
  | i :: is, hf, hw, d :: ds, vs, σ, ρ, ρ', Q, V, r, e, h => by
    cases r with
    | cons r1 r2 =>
      refine ⟨_, _, rfl, ?_⟩
      exact bc_list is (fun j hj => hf j (List.mem_cons_of_mem _ hj)) (fun j hj => hw j (List.mem_cons_of_mem _ hj)) ds _ _ _ ρ' Q (V.set r1 (hf i List.mem_cons_self)) r2 e fun σ' V' hs => h σ' V' (hs.trans (wipe_set (hw i List.mem_cons_self)))
  | [], _, _, _ :: _, _, _, _, _, _, _, _, e, _ => by cases e
  | _ :: _, _, _, [], _, _, _, _, _, _, _, e, _ => by cases e
theorem bc_tup {G : Gs} {is : List Nat} {n : Nat} {ws : List Nat} (hn : is.length = n) (hf : ∀ i ∈ is, noFx G i) (hw : ∀ i ∈ is, i ∈ ws) : BindC G ws (bT is) (gTup G.K n (gL is)) := by
  intro β S H σ ρ ρ' v d Q R V r e h
  unfold bT at e
  split at e
  · cases r with
    | tup q m =>
      refine ⟨_, _, rfl, q, ?_, bc_list is hf hw _ _ σ ρ ρ' Q V m e h⟩
      rw [m.length, bL_len e, hn]
  · cases e
theorem RVs.wipe {G : Gs} {β : List Addr} {H : Hp} {σ : Sl} {ρ : Ro} (V : RVs G β H σ ρ) : ∀ {vs : List Nat}, (∀ i ∈ vs, noFx G i) → RVs G β H (L2.wipe σ vs) (wipeR ρ vs)
  | [], _ => V
  | v :: vs, hf => (RVs.wipe V fun i hi => hf i (List.mem_cons_of_mem _ hi)).clear (hf v List.mem_cons_self)
theorem RVs.wiped {G : Gs} {β : List Addr} {H : Hp} {σ : Sl} {ρ : Ro} {vs : List Nat} (V : RVs G β H (L2.wipe σ vs) ρ) (hs : ∀ i ∈ vs, noFx G i) : True := trivial
def lcGo (it : IT) (bn : Bnd) (mt : MT) (m : ME) (n : Nat) : Nat → Nat → Ro → So → Rs D
  | 0, i, ρ, S => match it.at S i with
    | some none => .ok (.ref n) S
    | _ => .stuck
  | k + 1, i, ρ, S => match it.at S i with
    | some none => .ok (.ref n) S
    | some (some d) => match bn d ρ with
      | none => .stuck
      | some ρ1 => match mt ρ1 S with
        | .ok c S1 => if c then (match m ρ1 S1 with
          | .ok y S2 => match S2[n]? with
            | some (.lst acc) => if acc.length < lim then lcGo it bn mt m n k (i + 1) ρ (S2.set n (.lst (acc ++ [y]))) else .stuck
            | _ => .stuck
          | _ => .stuck) else lcGo it bn mt m n k (i + 1) ρ S1
        | _ => .stuck
    | none => .stuck
def mLc (mi : MI) (bn : Bnd) (mt : MT) (m : ME) (vs : List Nat) : ME := fun ρ S => (mi ρ S).bind fun it S1 => lcGo it bn mt m S1.length (it.len (S1 ++ [.lst []])) 0 (wipeR ρ vs) (S1 ++ [.lst []])
def mYes : MT := fun _ S => .ok true S
section
variable {X : Cx} {G : Gs} {W : WX} {k : Nat} {a b e o elt : Expr} {ifs : List Expr} {m ma mb mo : ME} {mt : MT} {mi : MI} {mr : MA} {pos p2 apos : Pos} {tg iter : Expr} {scope : Scope} {own : List (Str × Nat)} {bn : Bnd} {g : TG}
theorem cpts_nil : PTs X [] (tT G W mYes) := ⟨fun pins s σ H Q I h => pts_nil.run pins s σ H Q I (by
  obtain ⟨β, ρ, S, R, V, h⟩ := h
  exact h β H Ex.refl R)⟩
theorem cpts_one {c : Expr} (h : PT X c (tT G W mt)) : PTs X [c] (tT G W mt) := pts_one h
theorem Gd0.ok {α : Type} {β : List Addr} {H : Hp} {r : Rs α} {k : α → So → List Addr → Hp → Prop} (h : ∃ a S, r = .ok a S ∧ ∀ β' H', Ex β H β' H' → Rl G.K G.cl β' S H' → k a S β' H') : Gd G W β H r k := by
  obtain ⟨a, S, rfl, h⟩ := h
  exact h
theorem sM_lc {vs : List Nat} (hf : ∀ i ∈ vs, noFx G i) (hm : BindC G vs bn g) {σ : Sl} {H : Hp} {Q : VK} (h : tM G W (mLc mi bn mt m vs) σ H Q) : tLc (iM G W mi) g (tT G W0 mt) (tM G W0 m) vs σ H Q := by
  obtain ⟨β, ρ, S, R, V, h⟩ := h
  refine ⟨β, ρ, S, R, V, h.bind.imp fun it S1 β1 H1 e1 R1 h1 J hJ D hD => ?_⟩
  have V1 := (V.mono e1.toEw).wipe hf
  have eN := Ex.new (β := β1) (H := H1) (ho := .lst []) hD
  have RN : Rl G.K G.cl (β1 ++ [D]) (S1 ++ [.lst []]) (upd H1 D (.lst [])) := R1.new hD ⟨[], upd_same, .nil⟩
  refine ⟨fun i mm H => ∃ β S, Ex (β1 ++ [D]) (upd H1 D (.lst [])) β H ∧ Rl G.K G.cl β S H ∧ Gd G W β H (lcGo it bn mt m S1.length mm i (wipeR ρ vs) S) (kV G Q), ⟨_, β1 ++ [D], _, Ex.refl, RN, h1.mono eN⟩, ?_⟩
  rintro i mm H' ⟨β2, S2, e2, R2, h2⟩
  have e12 := eN.trans e2
  obtain ⟨j1, j2⟩ := hJ β2 S2 H' i e12 R2
  have hn2 : β2[S1.length]? = some D := e2.pre _ _ (last_of R1.len)
  have V2 := V1.mono e12.toEw
  cases mm with
  | zero =>
    unfold lcGo at h2
    split at h2
    · rename_i hz
      exact .inl ⟨j1 hz, h2 β2 H' Ex.refl R2 _ (.ref hn2)⟩
    · exact h2.elim
  | succ mm =>
    unfold lcGo at h2
    split at h2
    · rename_i hz
      exact .inl ⟨j1 hz, h2 β2 H' Ex.refl R2 _ (.ref hn2)⟩
    · rename_i d hd
      obtain ⟨go, yl⟩ := j2 d hd
      split at h2
      · exact h2.elim
      · rename_i ρ3 hb3
        refine .inr ⟨go, fun H => ∃ β S, Ex (β1 ++ [D]) (upd H1 D (.lst [])) β H ∧ Rl G.K G.cl β S H ∧ Gd G W β H (lcGo it bn mt m S1.length mm (i + 1) (wipeR ρ vs) S) (kV G Q), fun H' q => ⟨mm, Nat.lt_succ_self mm, q⟩, fun x H3 y => ?_⟩
        obtain ⟨e3, R3, rd⟩ := yl x H3 y
        refine hm β2 S2 H3 _ _ ρ3 x d _ R3 (V2.mono e3.toEw) rd hb3 fun σ4 V4 hw => ⟨hw.trans ?_, ?_⟩
        · clear hw h2 V2
          have key : ∀ (us ws : List Nat) (σ : Sl), (∀ i ∈ ws, i ∈ us) → wipe (wipe σ ws) us = wipe σ us := by
            intro us ws
            induction ws with
            | nil => intro σ _; rfl
            | cons w ws ih =>
              intro σ hw
              show wipe ((wipe σ ws).set w none) us = wipe σ us
              rw [wipe_set (hw w List.mem_cons_self)]
              exact ih σ fun i hi => hw i (List.mem_cons_of_mem _ hi)
          exact key vs vs σ fun i hi => hi
        · split at h2
          · rename_i c S4 ht
            refine ⟨β2, ρ3, S2, R3, V4, Gd0.ok ⟨c, S4, ht, fun β5 H5 e5 R5 => ?_⟩⟩
            cases c with
            | false =>
              unfold kT
              simp only [Bool.false_eq_true, if_false] at h2 ⊢
              exact ⟨β5, S4, e2.trans (e3.trans e5), R5, h2.mono (e3.trans e5)⟩
            | true =>
              unfold kT
              simp only [if_true] at h2 ⊢
              split at h2
              · rename_i y S6 hy
                refine ⟨β5, ρ3, S4, R5, V4.mono e5.toEw, Gd0.ok ⟨y, S6, hy, fun β6 H6 e6 R6 v rv => ?_⟩⟩
                split at h2
                · rename_i acc hacc
                  have hn6 : β6[S1.length]? = some D := (e3.trans (e5.trans e6)).pre _ _ hn2
                  obtain ⟨xs, q1, q2⟩ := R6.get hacc hn6
                  split at h2
                  · rename_i hl
                    obtain ⟨R7, e7⟩ := R6.upd (ho := .lst (xs ++ [v])) (o' := .lst (acc ++ [y])) hn6 (fun o u z => by rw [q1] at z; cases z) fun e' => ⟨_, upd_same, (q2.append (.cons rv .nil)).mono e'⟩
                    exact ⟨xs, q1, by rw [q2.length]; exact Nat.lt_trans hl lim_line, β6, _, e2.trans (e3.trans (e5.trans (e6.trans e7))), R7, h2.mono (e3.trans (e5.trans (e6.trans e7)))⟩
                  · exact h2.elim
                · exact h2.elim
              · exact h2.elim
          · exact h2.elim
    · exact h2.elim
theorem ce_lc (C : Cn X G W k) (hf : ∀ i ∈ own.map (·.2), noFx G i) (hm : BindC G (own.map (·.2)) bn g) (ok : BlkOk X.N X.env.scope scope own) (hi : PI X tg iter (iM G W mi))
    (hg : ∀ (s : Shared) (H : Hp) (C : Addr) (cl : List (Str × Addr)) (fp : List Addr), PG (X.blk s H scope (compEnvC scope cl C X.env) fp) tg g)
    (ht : ∀ (s : Shared) (H : Hp) (C : Addr) (cl : List (Str × Addr)) (fp : List Addr), Cn (X.blk s H scope (compEnvC scope cl C X.env) fp) G W0 k → PTs (X.blk s H scope (compEnvC scope cl C X.env) fp) ifs (tT G W0 mt))
    (he : ∀ (s : Shared) (H : Hp) (C : Addr) (cl : List (Str × Addr)) (fp : List Addr), Cn (X.blk s H scope (compEnvC scope cl C X.env) fp) G W0 k → PE (X.blk s H scope (compEnvC scope cl C X.env) fp) elt (tM G W0 m)) (hs : ∀ x, foldedSetIterable iter X.env x = pure x := by intro _; rfl) :
    PE X (.ListComp elt [⟨tg, iter, ifs, 0⟩] scope pos) (tM G W (mLc mi bn mt m (own.map (·.2)))) :=
  pe_imp (pe_lc C.calm C.nd hi ok hg (fun s H c cl fp => ht s H c cl fp (C.blk _ _ _ _ _)) (fun s H c cl fp => he s H c cl fp (C.blk _ _ _ _ _)) hs) fun _ _ _ h => sM_lc hf hm h
theorem cs_setLc {i : Nat} {y : Str} {py spos : Pos} (C : Cn X G W k) (hfi : noFx G i) (hy : X.N[i]? = some y) (hyl : X.env.scope.names.lookup y = some .local)
    (hsw : swapsWith (.ListComp elt [⟨tg, iter, ifs, 0⟩] scope pos) (some (.Name y py)) spos.line X.env = pure true) (hf : ∀ i ∈ own.map (·.2), noFx G i) (hm : BindC G (own.map (·.2)) bn g) (ok : BlkOk X.N X.env.scope scope own) (hi : PI X tg iter (iM G W mi))
    (hg : ∀ (s : Shared) (H : Hp) (C : Addr) (cl : List (Str × Addr)) (fp : List Addr), PG (X.blk s H scope (compEnvC scope cl C X.env) fp) tg g)
    (ht : ∀ (s : Shared) (H : Hp) (C : Addr) (cl : List (Str × Addr)) (fp : List Addr), Cn (X.blk s H scope (compEnvC scope cl C X.env) fp) G W0 k → PTs (X.blk s H scope (compEnvC scope cl C X.env) fp) ifs (tT G W0 mt))
    (he : ∀ (s : Shared) (H : Hp) (C : Addr) (cl : List (Str × Addr)) (fp : List Addr), Cn (X.blk s H scope (compEnvC scope cl C X.env) fp) G W0 k → PE (X.blk s H scope (compEnvC scope cl C X.env) fp) elt (tM G W0 m)) (hs : ∀ x, foldedSetIterable iter X.env x = pure x := by intro _; rfl) :
    PS X (.Assign [.Name y py] (.ListComp elt [⟨tg, iter, ifs, 0⟩] scope pos) spos) (sM G W (mAsg (mLc mi bn mt m (own.map (·.2))) (bN i))) := by
  refine ps_imp (ps_setLc C.calm C.nd hy hyl hsw hi ok hg (fun s H c cl fp => ht s H c cl fp (C.blk _ _ _ _ _)) (fun s H c cl fp => he s H c cl fp (C.blk _ _ _ _ _)) hs) fun D σ H h => ?_
  have h2 := sM_asg (bm_name hfi) h
  exact sM_lc hf hm h2
end
end Mi
namespace Mi
open PySem PySem.Spec PyProof.Rows L2
/-! ### an own exception's __init__ that calls super().__init__(text) and stores its one argument -/
/-- what is written of such an __init__ -/
structure SupTxt (P : Program) (K : PySem.W.Frag) (mg : Str → Option Value) (st : Stmt) (qual : Str) (f : Addr) (fd : FuncData) (C : Addr) : Prop where
  ex : ∃ (oc : Value) (od : Option Addr) (kV doc pm : Value) (an : Option Addr) (cda cc : Addr) (ct : Value) (osl : Array (Option Value)),
    fd = PySem.W.fnX "__init__" qual (defArgs st) (defBody st) (defScope st) [("__class__", cc)] .none kV doc pm an (.ref cda) ct ∧ K.lookup f = some ⟨oc, od, .func fd, osl⟩ ∧ PySem.W.codeIn K (.ref cda) qual = true ∧
    (∃ (ccl : Value) (cdd : Option Addr) (vs : Array Value) (ccs : Array (Option Value)) (file : Str) (tf : Tok), K.lookup cda = some ⟨ccl, cdd, .fields vs, ccs⟩ ∧ vs[2]? = some (.str file tf) ∧ ((P.main.file : Str) == file) = true) ∧
    ∃ (cl : Value) (cld : Option Addr) (csl : Array (Option Value)), K.lookup cc = some ⟨cl, cld, .cell (some (.ref C)), csl⟩
  top : (P.main.scope.names.lookup ("super" : Str)).isSome = false
  sup : mg "super" = none
  opq : PySem.W.nsIn K PySem.cStatics "thirdparty.any" = some none
  own : PySem.W.mroIn K C (.ref C) = some true
  val : PySem.W.subIn K (.ref C) (.type "ValueError") = some true
  ini : PySem.W.ks_superIn K C C "__init__" = some (some (.builtin "ValueError.__init__"))
def spSup (C : Addr) (fld : Str) : Sp := fun vs H Q _ => ∃ (a : Addr) (y : V), vs = [.ref a, y] ∧ H a = some (exo a C none) ∧ ∀ dx, H dx = none → dx ≠ a → Q .non (upd (upd H dx (exd dx [(fld, y)])) a (exo a C (some dx)))
section
variable {P : Program} {w : World} {K : PySem.W.Frag} {mg : Str → Option Value} {base : Heap}
/-- the shape of the def -/
structure SupSt (st : Stmt) (px fld t : Str) : Prop where
  body : ∃ (p0 p1 p2 p3 p4 p5 p6 p7 p8 p9 : Pos) (j : Nat), defBody st = [.Expr (.Call (.Attribute (.Call (.Name "super" p0) [] [] p1) "__init__" p2) [.Constant (.str t) j p3] [] p4) p5, .Assign [.Attribute (.Name "self" p6) fld p7] (.Name px p8) p9] ∧
    ∀ env : Env, ∃ pl : Sem Bool, eval (.Call (.Attribute (.Call (.Name "super" p0) [] [] p1) "__init__" p2) [.Constant (.str t) j p3] [] p4) env = (do
      let ov ← attributeBase (.Call (.Name "super" p0) [] [] p1) "__init__" env (eval (.Call (.Name "super" p0) [] [] p1) env)
      standAt p2.atName
      let (f, first) ← holding [ov] (getMethod ov "__init__" pl)
      callWith p4 f first (backTo p4 (starEach [.Constant (.str t) j p3] env)) [])
  sc : NdefX.NScope ["self", px, "__class__"] ["self", px] ["__class__"] (defScope st)
  par : ((defArgs st).posonlyargs ++ (defArgs st).args).head?.map (·.arg) = some "self"
  sup : (defScope st).names.lookup ("super" : Str) = some .globalImplicit
  sf : (("self" : Str) == ("__debug__" : Str)) = false
theorem sup_ok {st : Stmt} {qual : Str} {f : Addr} {fd : FuncData} {C : Addr} {px fld t : Str} (F : SupTxt P K mg st qual f fd C) (B : SupSt st px fld t) (T : OexC K C) (hno : PySem.W.findIn K (.ref C) fld = some none) (hd : (px == ("__debug__" : Str)) = false) (hcd : (px == ("__classdict__" : Str)) = false) :
    FnOk P w K mg base (L2.CX P w) 1 f fd ["self", px] (spSup C fld) := by
  obtain ⟨oc, od, kV, doc, pm, an, cda, cc, ct, osl, rfl, lk, hcode, ⟨ccl, cdd, cvs, ccs, file, tf, hco, hvs, hfile⟩, cl, cld, csl, hcell⟩ := F.ex
  obtain ⟨p0, p1, p2, p3, p4, p5, p6, p7, p8, p9, j, hbody, hev⟩ := B.body
  have S := B.sc
  refine ⟨fun vs H Q E h => ?_, fun A outer s H args us vs Q E hr e0 hb r hsp => ?_⟩
  · obtain ⟨a, y, rfl, _⟩ := h
    rfl
  · have KX : K.In s.heap := e0.mod.kin.keeps fun b o e => (e0.bs b o e).1
    have lim : s.heap.NoLimit := e0.mod.nolimit.keeps fun b o e => (e0.bs b o e).1
    have hl : vs.length = (["self", px] : List Str).length := by
      obtain ⟨a, y, rfl, _⟩ := hsp
      rfl
    let NFF : NdefX.NF := ⟨"__init__", qual, defArgs st, defBody st, defScope st, [("__class__", cc)], cda⟩
    have hcc := KX _ _ hcell
    have nC : H cc = none := (e0.bs cc _ (e0.mod.kin cc _ hcell)).2
    have CA : NdefX.CellsAt NFF.cl ["__class__"] [none] s.heap H := by
      refine ⟨rfl, fun y c e => ?_, fun x y c e1 e2 => ?_, fun i y e => ?_⟩
      · have : c = cc := by
          have e' : List.lookup y [(("__class__" : Str), cc)] = some c := e
          simp only [List.lookup] at e'
          split at e'
          · exact (Option.some.inj e').symm
          · cases e'
        subst this
        exact ⟨nC, _, _, hcc, rfl⟩
      · have key : ∀ {z : Str} {c : Addr}, List.lookup z [(("__class__" : Str), cc)] = some c → z = "__class__" := fun {z c} e' => by
          simp only [List.lookup] at e'
          split at e'
          · rename_i q
            exact eq_of_beq q
          · cases e'
        exact (key e1).trans (key e2).symm
      · match i, e with
        | 0, e =>
          cases e
          exact ⟨cc, by simp [NFF, List.lookup], fun v ev => by simp at ev⟩
        | i + 1, e => simp at e
    refine ks_codeAny_call_defAt (fd := PySem.W.fnX "__init__" qual (defArgs st) (defBody st) (defScope st) [("__class__", cc)] .none kV doc pm an (.ref cda) ct) (body := defBody st) (binds := (["self", px] : List Str).zip us) hr.depth (KX _ _ lk) rfl lim (PySem.W.codeRec_of KX hcode) rfl hb S.nocell (fun ⟨n, _⟩ hy => S.par n (List.of_mem_zip hy).1) (fun h₁ hns kp => ?_) S.co S.gen S.kind
    have I : Inv (NdefX.ncx (L2.CX P w) P w K mg base ["self", px, "__class__"] NFF f A outer s H E) [] (NdefX.startF ["self", px, "__class__"] vs [none]) H { s with heap := h₁, toks := s.toks + ((["self", px] : List Str).zip us).length } := NdefX.inv_startN S hr.hd e0 hl r CA hns kp
    generalize hA' : A.deeper (NdefX.envF NFF f s.heap.objs.size) = A'
    show _root_.PySem.wpAt (model P w) (A.deeper (NdefX.envF NFF f s.heap.objs.size)) (.func (defBody st) (NdefX.envF NFF f s.heap.objs.size)) (execs (defBody st) (NdefX.envF NFF f s.heap.objs.size)) _ _ _
    have hex : execs (defBody st) (NdefX.envF NFF f s.heap.objs.size) = execs [.Expr (.Call (.Attribute (.Call (.Name "super" p0) [] [] p1) "__init__" p2) [.Constant (.str t) j p3] [] p4) p5, .Assign [.Attribute (.Name "self" p6) fld p7] (.Name px p8) p9] (NdefX.envF NFF f s.heap.objs.size) := by rw [hbody]
    rw [hex]
    obtain ⟨a, y, rfl, ea, fin⟩ := hsp
    -- the arguments' values
    obtain ⟨u2, hus, ry⟩ : ∃ u2, us = [Value.ref a, u2] ∧ RelV y u2 := by
      cases r with
      | cons r1 rr =>
        cases rr with
        | cons r2 rr =>
          cases rr
          cases r1
          exact ⟨_, rfl, r2⟩
    subst hus
    obtain ⟨nm, q, N, bs, bm, sn, sub, ab, col, dd, k0, k1, k2, k3, k5, lC, hbm⟩ := T.cls
    have hcl : PySem.W.clsIn K C = some { name := nm, bases := bs, mro := .ref C :: bm, ns := N, qualname := q, hasDict := true, slotNames := sn, subclasses := sub, abstract := ab, collection := col, hasDel := false } := by unfold PySem.W.clsIn; rw [lC] <;> rfl
    have kin : ∀ b o, K.lookup b = some o → h₁.get? b = some o := fun b o e => kp _ _ (KX _ _ e)
    obtain ⟨t1, ho⟩ := exo_at I.hok ea
    have hI : PySem.W.InstAt h₁ a { cls := .ref C, dict := none, data := .fields #[.ref t1, .none, .none, .none, .bool false, .none] } C none := ⟨ho, rfl, rfl, trivial⟩
    have iq : interactive (NdefX.envF NFF f s.heap.objs.size) = false := I.quiet
    have swf : swapsWith (.Call (.Attribute (.Call (.Name "super" p0) [] [] p1) "__init__" p2) [.Constant (.str t) j p3] [] p4) none p5.line (NdefX.envF NFF f s.heap.objs.size) = pure false := by rfl
    obtain ⟨pl, hev⟩ := hev (NdefX.envF NFF f s.heap.objs.size)
    refine ks_wpAt_execs_cons (ks_wpAt_Expr_any (ks_wpAt_MethodCall (pl := pl) ?_ hev) iq swf)
    have kk : (defScope st).kind = .function := S.kind
    have hkc : (defScope st).names.lookup ("__class__" : Str) = some .free := S.frk _ (by simp)
    have hks : (defScope st).names.lookup ("self" : Str) = some .local := S.par _ (by simp)
    obtain ⟨ar, har, hself⟩ : ∃ ar, ((defArgs st).posonlyargs ++ (defArgs st).args).head? = some ar ∧ ar.arg = "self" := by
      have := B.par
      cases hh : ((defArgs st).posonlyargs ++ (defArgs st).args).head? with
      | none => rw [hh] at this; cases this
      | some ar => rw [hh] at this; exact ⟨ar, rfl, Option.some.inj this⟩
    have hzip : ((["self", px] : List Str).zip [Value.ref a, u2]).reverse.lookup ("self" : Str) = some (.ref a) := by
      have nd := S.nd
      have h1 : ¬ (("self" : Str) = px) := by
        intro z
        rw [z] at nd
        simp at nd
      have h2 : (("self" : Str) == px) = false := by simpa using h1
      show List.lookup ("self" : Str) [(px, u2), (("self" : Str), Value.ref a)] = some (.ref a)
      simp [List.lookup, h2]
    refine ks_wpAt_super_base (env := NdefX.envF NFF f s.heap.objs.size) B.sup hkc (by decide) rfl (kp _ _ (KX _ _ lk)) rfl har rfl (kin _ _ hco) rfl hvs hfile F.top ?_
    obtain ⟨mb, hb1, hb2⟩ := I.mod.blt
    refine PySem.W.ks_loadName_global kk B.sup (Calls.loadGlobal_builtin (I.mod.glob.keeps I.bk) F.sup (hb1.keeps I.bk) ((hb2 "super" (by decide)).trans (by first | boot_by_name | rfl | kernel_rfl)) ⟨rfl, ?_⟩)
    refine wpAny_loadName_free kk hkc (c := cc) (v := .ref C) (by simp [NFF, List.lookup]) ⟨_, kin _ _ hcell, rfl⟩ ?_
    rw [hself]
    refine wpAny_loadName_local kk hks hns hzip ?_
    refine ks_wpAny_isType_cls (kin _ _ lC) rfl ⟨rfl, ?_⟩
    refine ks_wpAny_call_super (C := C) (kin _ _ lC) rfl ho rfl (fun c z => by cases z) (PySem.W.looks_mroIn kin F.own) (fun h2 e2 k2 => ?_)
    have I2 : Inv (NdefX.ncx (L2.CX P w) P w K mg base ["self", px, "__class__"] NFF f A outer s H E) [] (NdefX.startF ["self", px, "__class__"] [V.ref a, y] [none]) H { s with heap := h2, toks := s.toks + ((["self", px] : List Str).zip [Value.ref a, u2]).length } := I.kept (t' := s.toks + ((["self", px] : List Str).zip [Value.ref a, u2]).length) fun b o e => k2 b o e
    have kin2 : ∀ b o, K.lookup b = some o → h2.get? b = some o := fun b o e => k2 _ _ (kin _ _ e)
    have hI2 : PySem.W.InstAt h2 a { cls := .ref C, dict := none, data := .fields #[.ref t1, .none, .none, .none, .bool false, .none] } C none := ⟨k2 _ _ ho, rfl, rfl, trivial⟩
    have hini := F.ini
    unfold PySem.W.ks_superIn at hini
    rw [hcl] at hini
    refine PySem.W.kxs_getMethod PySem.W.kxs_ValueError e2 (PySem.W.looks_opaque kin2 F.opq) (l₀ := .ref C :: bm) (fun A Q E s k q => wpAny_bind ((PySem.W.looks_clsIn kin2 hcl) A _ E s k (wpAny_pure q))) rfl kin2 hini (hI2.type.andThen (PySem.W.looks_subIn kin2 F.val)) (PySem.W.ks_ne kin2 hI2 hcl) (by decide) ?_
    refine PySem.W.kxs_callWith (i := "ValueError.__init__") (x := a) (by rfl) (Calls.evalArgs_plain ?_)
    refine Calls.spliced_cons (Calls.Constant_str (k := j) (pos := p3) (Calls.spliced_nil ⟨Heap.get?_push_at rfl rfl, ?_⟩))
    have FB := PySem.F.excBase_ValueError
    have hz1 : ([Value.str t (s.toks + ((["self", px] : List Str).zip [Value.ref a, u2]).length + 1)] : List Value).length ≤ sizeLine := by rw [sizeLine_eq]; show 1 ≤ 16777216; decide
    have k3 : ∀ b o, h2.get? b = some o → (h2.push (PySem.W.kxs_mw "ValueError.__init__" a)).get? b = some o := fun b o e => Heap.get?_push_of_some _ e
    have I3 : Inv (NdefX.ncx (L2.CX P w) P w K mg base ["self", px, "__class__"] NFF f A outer s H E) [] (NdefX.startF ["self", px, "__class__"] [V.ref a, y] [none]) H { s with heap := h2.push (PySem.W.kxs_mw "ValueError.__init__" a), toks := s.toks + ((["self", px] : List Str).zip [Value.ref a, u2]).length + 1 + 1 } :=
      I2.kept (t' := s.toks + ((["self", px] : List Str).zip [Value.ref a, u2]).length + 1 + 1) fun b o e => k3 b o e
    refine wpAny_call (codeAny_of_tree ?_)
    show wpAny _ (A.deeper (NdefX.envF NFF f s.heap.objs.size)).in1 (callAny (.ref h2.objs.size) ⟨[] ++ [Value.str t (s.toks + ((["self", px] : List Str).zip [Value.ref a, u2]).length + 1)], []⟩) _ _ _
    simp only [callAny]
    refine wpAny_bind (wpAny_load (Heap.get?_push_at rfl rfl) ?_)
    simp only [PySem.W.kxs_mw, show (Value.type "method-wrapper" == Value.type "method" || Value.type "method-wrapper" == Value.type "builtin_function_or_method" || Value.type "method-wrapper" == Value.type "method-wrapper") = true by decide, if_true]
    refine PySem.W.KFB.if_so (by decide) ?_
    refine wpAny_bind (PySem.W.check_bound_init FB.toExcCallFacts (k3 _ _ (kin2 _ _ lC)) (k3 _ _ (k2 _ _ ho)) rfl ?_)
    refine wpAny_bind (wpAny_pure (wpAny_pure ?_))
    refine ⟨plainId_quiet FB.init.plain _, codeAny_builtin FB.initEntry ?_⟩
    refine PySem.W.exc_init_tree (cls := .ref C) (t0 := t1) (dv := none) (c2 := .none) (c3 := .none) (b4 := .bool false) (k3 _ _ (k2 _ _ ho)) hz1 (fun h4 k4 hx4 _ => ?_)
    have I4 := I3.write (t' := s.toks + ((["self", px] : List Str).zip [Value.ref a, u2]).length + 1 + 1) (x := a) (e := a) (o := exo a C none) (by rw [ea]; exact True.intro) (.inl rfl) k4 ⟨_, hx4⟩ (exo_ok hx4)
    have eu : upd H a (exo a C none) = H := by
      funext b
      by_cases hb : b = a
      · rw [hb, upd_same, ea]
      · rw [upd_ne hb]
    rw [eu] at I4
    refine wpAt_of_wpAny ?_
    have hvs0 : Vis (NdefX.ncx (L2.CX P w) P w K mg base ["self", px, "__class__"] NFF f A outer s H E).env.scope ("self" : Str) := .inl hks
    have hvs1 : Vis (NdefX.ncx (L2.CX P w) P w K mg base ["self", px, "__class__"] NFF f A outer s H E).env.scope px := .inl (S.par _ (by simp))
    have term : PSs (NdefX.ncx (L2.CX P w) P w K mg base ["self", px, "__class__"] NFF f A outer s H E) [.Assign [.Attribute (.Name "self" p6) fld p7] (.Name px p8) p9] (tOst K fld (tVar 0) (tVar 1)) :=
      pss_one (ps_ost (X := NdefX.ncx (L2.CX P w) P w K mg base ["self", px, "__class__"] NFF f A outer s H E) (pv 0 rfl hvs0) (pv 1 rfl hvs1 hd hcd))
    have hread : tOst K fld (tVar 0) (tVar 1) { nx := fun _ H' => Q .non H', rt := Q } (NdefX.startF ["self", px, "__class__"] [V.ref a, y] [none]) H :=
      ⟨y, rfl, V.ref a, rfl, a, C, rfl, T, hno, .inl ⟨ea, fun dx n ne => fin dx n ne⟩⟩
    refine wpAny_mono (term.run [] _ _ H _ I4 hread) (fun fl s' hs => ?_) fun e s' hs => hs
    have done : ∀ {σ' : L2.St} {H' : Hp} {v : V} {u : Value}, Inv (NdefX.ncx (L2.CX P w) P w K mg base ["self", px, "__class__"] NFF f A outer s H E) [] σ' H' s' → L2.RelV v u → Q v H' → CE outer P w H s Q u s' :=
      fun {σ' H' v u} J rv q => ⟨v, H', J.os, J.bare, J.base, J.hok, rv, q⟩
    cases fl with
    | ret u =>
      obtain ⟨v, σ', H', J, rv, q⟩ := hs
      exact done J rv q
    | next =>
      obtain ⟨σ', H', J, q⟩ := hs
      exact done (v := V.non) (u := Value.none) J rfl q
    | brk =>
      obtain ⟨_, _, _, q⟩ := hs
      exact False.elim q
    | cont =>
      obtain ⟨_, _, _, q⟩ := hs
      exact False.elim q
end
end Mi
namespace Mi
open PySem PySem.Spec PyProof.Rows L2
/-! ### raise C(e) -/
/-- what a raise of the own error asks -/
structure ErrC (P : Program) (w : World) (K : PySem.W.Frag) (mg : Str → Option Value) (base : Heap) (cl : Str → Option Addr) (nm fld : Str) : Prop where
  at_ : ∃ (C f : Addr) (fd : FuncData) (px : Str), mg nm = some (.ref C) ∧ cl nm = some C ∧ OexC K C ∧ PySem.W.findIn K (.ref C) "__init__" = some (some (.ref f)) ∧ PySem.W.typeIn K (.ref f) = some (.type "function") ∧
    FnOk P w K mg base (L2.CX P w) 1 f fd ["self", px] (spSup C fld) ∧ Binds K fd ["self", px] []
def mRaise (nm fld : Str) (m : ME) : MS := fun ρ S => (m ρ S).bind fun d S1 => .ex { cls := nm, fs := [(fld, d)] } ρ S1
section
variable {X : Cx} {G : Gs} {W : WX} {k : Nat} {e : Expr} {m : ME} {pos p2 p3 : Pos}
theorem xd_eq {H : Hp} {a dx C : Addr} {fld : Str} {y : V} (ha : H a = none) (hd : dx ≠ a) : upd (del (upd (upd (upd H a (exo a C none)) dx (exd dx [(fld, y)])) a (exo a C (some dx))) a) dx (.xd [(fld, y)]) = upd H dx (.xd [(fld, y)]) := by
  funext b
  by_cases hb : b = dx
  · rw [hb, upd_same, upd_same]
  · rw [upd_ne hb, upd_ne hb]
    by_cases hba : b = a
    · rw [hba, del_same, ha]
    · rw [del_ne hba, upd_ne hba, upd_ne hb, upd_ne hba]
theorem cs_raise {nm fld : Str} (E : ErrC X.prog X.w X.K X.mg X.base G.cl nm fld) (C : Cn X G W k) (hk : 2 ≤ k) (hg : Gl X nm) (ha : PE X e (tM G W m)) (hdb : (nm == ("__debug__" : Str)) = false := by decide)
    (he : starEach [e] X.env = (false, eval e X.env) :: starEach [] X.env := by rfl) (hpl : (backTo p3 (starEach [] X.env)).any (·.1) = false := by rfl) : PS X (.Raise (some (.Call (.Name nm p2) [e] [] p3)) none pos) (sM G W (mRaise nm fld m)) := by
  obtain ⟨Ca, f, fd, px, hm, hcl, T, iC, tI, F1, hb⟩ := E.at_
  refine ps_imp (ps_raise C.calm C.tk (pmk_oex T iC tI F1 (C.hr.mono hk) hb (.nil : Vals [] []) passL hg hm (ca_cons (G := G) (W := W) ha ca_nil he) hdb he hpl)) fun D σ H h => ?_
  obtain ⟨β, ρ, S, R, Vr, h⟩ := h
  refine ⟨β, ρ, S, R, Vr, ?_⟩
  have key : Gd G W β H ((mConsA m mNilA) ρ S) (kA G fun vs H1 => vs.length ≤ 1000 ∧ ∀ a, H1 a = none → spSup Ca fld (.ref a :: (vs ++ [])) (upd H1 a (exo a Ca none)) (fun v H2 => v = .non ∧ ∃ (d : Addr) (fs : List (Str × L2.V)), H2 a = some (exo a Ca (some d)) ∧ H2 d = some (exd d fs) ∧ H1 d = none ∧ W (.ref Ca) (some d) σ (upd (del H2 a) d (.xd fs))) (fun _ _ _ => False)) := by
    unfold mConsA
    unfold mRaise at h
    cases hm : m ρ S with
    | stuck => rw [hm] at h; exact h.elim
    | ex c r S1 => rw [hm] at h; exact h
    | ok d S1 =>
      rw [hm] at h
      intro β1 H1 e1 R1 vs rs
      obtain ⟨y, rfl, ry⟩ := rs.one
      refine ⟨Nat.succ_le_succ (Nat.zero_le _), fun a hna => ⟨a, y, rfl, upd_same, fun dx hdx hne => ⟨rfl, dx, [(fld, y)], upd_same, ?_, ?_, ?_⟩⟩⟩
      · rw [upd_ne hne, upd_same]
      · rw [upd_ne hne] at hdx
        exact hdx
      · have hdx' : H1 dx = none := by
          rw [upd_ne hne] at hdx
          exact hdx
        rw [xd_eq hna hne]
        have ef := Ex.fresh (β := β1) (ho := HO.xd [(fld, y)]) hdx'
        exact h β1 _ σ _ _ (e1.trans ef) (R1.fresh hdx') (Vr.mono (e1.trans ef).toEw) ⟨Ca, dx, [(fld, y)], hcl, rfl, rfl, upd_same, .cons ⟨rfl, ry.mono ef.toEw⟩ .nil⟩
  exact key

/-! ### try: .. except C as n: .. -/
abbrev Is := Str → Option Bool
def mTryAs (is : Is) (i : Nat) (mb : MS) (ms : Exn → MS) : MS := fun ρ S => match mb ρ S with
  | .ok p S1 => .ok p S1
  | .stuck => .stuck
  | .ex c ρ1 S1 => match is c.cls with
    | some true => if i < ρ1.length then (match ms c (ρ1.set i none) S1 with
      | .ok p S2 => .ok (p.1, p.2.set i none) S2
      | _ => .stuck) else .stuck
    | some false => .ex c ρ1 S1
    | none => .stuck
/-- the suite's own facts: e at slot i -/
def Gs.suite (G : Gs) (i : Nat) (a : Addr) (cls : Value) (d : Option Addr) (c : Exn) : Gs := { G with fx := (i, V.ref a) :: G.fx, xx := (cls, d, c) :: G.xx }
theorem ps_ex {X : Cx} {st : List Stmt} {α : Type} {t : α → TS} (h : ∀ c, PSs X st (t c)) : PSs X st (fun D σ H => ∃ c, t c D σ H) := ⟨fun pins s σ H D I ⟨c, q⟩ => (h c).run pins s σ H D I q⟩
theorem RVs.out {i : Nat} {a : Addr} {cls : Value} {d : Option Addr} {c : Exn} {β : List Addr} {H : Hp} {σ : Sl} {ρ : Ro} (h : RVs (G.suite i a cls d c) β H σ ρ) : RVs G β H σ ρ :=
  ⟨h.len, h.slot, fun p hp => h.fx p (List.mem_cons_of_mem _ hp), fun t ht => h.xx t (List.mem_cons_of_mem _ ht)⟩
theorem cs_tryAs {is : Is} {i : Nat} {n x : Str} {cv : Value} {body suite : List Stmt} {b₀ : Stmt} {mb : MS} {ms : Exn → MS} {np pos' : Pos} (C : Cn X G W k) (hs : X.stack = X.env :: X.outer) (hf : X.env.frame = some X.env.locals) (hi : X.N[i]? = some n) (hln : X.env.kindOf n = some .local) (hc : Names X x cv)
    (hfx : noFx G i) (his : ∀ (nm : Str) (Ca : Addr) (b : Bool), G.cl nm = some Ca → is nm = some b → PySem.W.exmOne X.K (.ref Ca) cv = some b)
    (hb : ∀ (W' : WX) (pn : List (Addr × Obj)) (xe : Value → Shared → Prop), Cn (X.tr pn xe) G W' k → PSs (X.tr pn xe) body (sM G W' mb))
    (hsu : ∀ (a : Addr) (oe : Obj) (cls : Value) (d : Option Addr) (pn : List (Addr × Obj)) (c : Exn), Zc cls d oe → (∃ vs, oe.data = .fields vs) → PSs (X.suite a ((a, oe) :: pn)) (b₀ :: suite) (sM (G.suite i a cls d c) W0 (ms c))) :
    PS X (.Try body [.ExceptHandler (some (.Name x np)) (some n) (b₀ :: suite) pos'] [] [] pos) (sM G W (mTryAs is i mb ms)) := by
  refine ps_imp (ps_try_as (tb := fun W' => sM G W' mb) (ts := fun a cls d D σ H => ∃ c, sM (G.suite i a cls d c) W0 (ms c) D σ H) hs hf C.nd hi hln hc C.tk
    (fun W' pn xe tk ow => hb W' pn xe ⟨C.hK, C.hr, C.calm, ow, tk, C.nd⟩) (fun a oe cls d pn hz hf => ps_ex fun c => hsu a oe cls d pn c hz hf)) fun D σ H h => ?_
  obtain ⟨β, ρ, S, R, Vr, h⟩ := h
  refine ⟨β, ρ, S, R, Vr, ?_⟩
  unfold mTryAs at h
  cases hm : mb ρ S with
  | stuck => rw [hm] at h; exact h.elim
  | ok p S1 => rw [hm] at h; exact h
  | ex c ρ1 S1 =>
    rw [hm] at h
    simp only at h
    intro β1 H1 σ1 cls d e1 R1 V1 x1
    obtain ⟨Ca, dd, ys, hcl, rfl, rfl, hxd, hps⟩ := id x1
    split at h
    · rename_i his1
      split at h
      case isFalse => exact h.elim
      refine ⟨true, his _ _ _ hcl his1, fun _ a hna => ⟨c, β1, ρ1.set i none, S1, R1, ?_, ?_⟩, (fun z => Bool.noConfusion z)⟩
      · have V2 := V1.clear (x := some (L2.V.ref a)) hfx
        refine ⟨V2.len, V2.slot, fun p hp => ?_, fun t ht => ?_⟩
        · rcases List.mem_cons.mp hp with rfl | hp
          · exact List.getElem?_set_self (by rw [V1.len]; assumption)
          · exact V2.fx p hp
        · rcases List.mem_cons.mp ht with rfl | ht
          · exact x1
          · exact V2.xx t ht
      · cases hms : ms c (ρ1.set i none) S1 with
        | stuck => rw [hms] at h; exact h.elim
        | ex c2 r2 S2 => rw [hms] at h; exact h.elim
        | ok p S2 =>
          rw [hms] at h
          obtain ⟨f, ρ2⟩ := p
          intro β2 H2 e2 R2
          have h2 := h β2 H2 (e1.trans e2) R2
          cases f with
          | nx => exact fun σ' V' => h2 _ (V'.out.clear hfx)
          | bk => exact fun σ' V' => h2 _ (V'.out.clear hfx)
          | ct => exact fun σ' V' => h2 _ (V'.out.clear hfx)
          | rt d => exact h2
    · rename_i his1
      exact ⟨false, his _ _ _ hcl his1, (fun z => Bool.noConfusion z), fun _ => h β1 H1 σ1 _ _ e1 R1 V1 x1⟩
    · exact h.elim
/-! ### in the suite: n.f, isinstance(n, C) -/
def mXf (nm : Str) (fld : Str) (c : Exn) : ME := fun _ S => if c.cls = nm then (match c.fs.lookup fld with
  | some d => .ok d S
  | none => .stuck) else .stuck
theorem lookup_rps {K : PySem.W.Frag} {β : List Addr} {H : Hp} {ys : List (Str × L2.V)} {fs : List (Str × D)} (m : RPs K β H ys fs) {f : Str} {d : D} (h : fs.lookup f = some d) : ∃ v, ys.lookup f = some v ∧ RD K β H v d := by
  unfold RPs at m
  induction m with
  | nil => cases h
  | @cons p q ps qs a b ih =>
    obtain ⟨f1, v1⟩ := p
    obtain ⟨f2, d2⟩ := q
    obtain ⟨e1, e2⟩ := a
    simp only at e1 e2
    subst e1
    simp only [List.lookup] at h ⊢
    split at h
    · cases h
      exact ⟨_, rfl, e2⟩
    · exact ih h
theorem ce_xf {a : Addr} {oe : Obj} {cls : Value} {d : Option Addr} {pn : List (Addr × Obj)} {c : Exn} {i : Nat} {n fld nm : Str} {Ca : Addr} {W' : WX} {p4 : Pos} (hK : X.K = G.K) (hcl : G.cl nm = some Ca) (T : XfC X.K Ca) (hno : PySem.W.findIn X.K (.ref Ca) fld = some none) (hz : Zc cls d oe) (hf : ∃ vs, oe.data = .fields vs)
    (hi : X.N[i]? = some n) (hv : Vis X.env.scope n := by first | exact Or.inl rfl | exact Or.inr (Or.inl rfl) | exact Or.inr (Or.inr rfl)) (hd : (n == ("__debug__" : Str)) = false := by decide) (hcd : (n == ("__classdict__" : Str)) = false := by decide)
    (hb : attributeBase (.Name n p4) fld X.env (eval (.Name n p4) X.env) = eval (.Name n p4) X.env := by rfl) :
    PE (X.suite a ((a, oe) :: pn)) (.Attribute (.Name n p4) fld pos) (tM (G.suite i a cls d c) W' (mXf nm fld c)) := by
  refine pe_imp (pe_xf T hno hz hf (pe_var (X := X.suite a ((a, oe) :: pn)) (i := i) hi hv hd hcd) hb) fun σ H Q h => ?_
  obtain ⟨β, ρ, S, R, Vr, h⟩ := h
  have f1 := Vr.fx (i, .ref a) List.mem_cons_self
  obtain ⟨Cb, dd, ys, h1, rfl, rfl, h4, h5⟩ := Vr.xx (cls, d, c) List.mem_cons_self
  unfold mXf at h
  split at h
  · rename_i hn
    split at h
    · rename_i z hl
      have h1 : G.cl c.cls = some Cb := h1
      rw [hn, hcl] at h1
      cases h1
      obtain ⟨v, l, rv⟩ := lookup_rps h5 hl
      exact ⟨_, f1, rfl, rfl, dd, ys, v, rfl, h4, l, h β H Ex.refl R v rv⟩
    · exact h.elim
  · exact h.elim
def mIsE (is : Is) (c : Exn) : ME := fun _ S => match is c.cls with
  | some b => .ok (.bl b) S
  | none => .stuck
/-- what isinstance asks of an error's class (d: its dict's object, any) -/
structure ExcK (K : PySem.W.Frag) (D : Addr) : Prop where
  cl : (PySem.W.clsIn K D).isSome = true
  ga : PySem.W.findIn K (.ref D) "__getattribute__" = some (some (.builtin "BaseException.__getattribute__"))
  gt : PySem.W.findIn K (.ref D) "__getattr__" = some none
  sb : PySem.W.subIn K (.ref D) (.type "BaseException") = some true
  ca : PySem.W.findIn K (.ref D) "__class__" = some (some (.builtin "object.__class__"))
  sp : PySem.W.specialIn K (.builtin "object.__class__") "__get__" = some (some (.builtin "getset_descriptor.__get__"))
  tk : PySem.W.takesIn K (.builtin "object.__class__") = some true
  ob : PySem.W.mroIn K D (.type "object") = some true
def rIsX (K : PySem.W.Frag) (D a : Addr) (d : Option Addr) : List L2.V → Hp → VK → Prop := fun xs H Q => ∃ (c : L2.V) (cv : Value) (b : Bool) (dd : Addr) (fs : List (Str × L2.V)), xs = [.ref a, c] ∧ (∀ u, RelV c u → u = cv) ∧ d = some dd ∧ H dd = some (.xd fs) ∧ PySem.W.kitOne K (.ref D) cv = some b ∧ Q (.bl b) H
theorem call_isX {a D : Addr} {d : Option Addr} {oe : Obj} {pn : List (Addr × Obj)} (C : ExcK X.K D) (hz : Zc (.ref D) d oe) (hf : ∃ vs, oe.data = .fields vs) : CallR (X.suite a ((a, oe) :: pn)) (.builtin "isinstance") (rIsX X.K D a d) := by
  intro pins s σ H xs us Q I r h
  obtain ⟨c, cv, b, dd, fs, rfl, hcv, rfl, ea, e, q⟩ := h
  obtain ⟨u1, u2, rfl, r1, r2⟩ := vals2 r
  cases r1
  have := hcv _ r2
  subst this
  obtain ⟨hget, _⟩ := I.pin (a, oe) (List.mem_append_left _ List.mem_cons_self)
  obtain ⟨vs, hv⟩ := hf
  obtain ⟨mA, hns, _⟩ := (show ObjOk X.prog X.w H s.heap dd (.xd fs) from I.hok dd _ ea)
  obtain ⟨od, ho, _⟩ := lookIn_ns hns
  have J : PySem.W.InstAt s.heap a oe D (some od) := ⟨hget, hz.1, by unfold PySem.W.notCls; rw [hv] <;> rfl, by rw [hz.2]; exact ho⟩
  exact PySem.W.kia_one (PySem.W.kitx_exc (od := some od) C.cl C.ga C.gt C.sb C.ca C.sp C.tk C.ob) I.kIn J e (fun z => nomatch z) fun tk => ⟨.bl b, H, I.kept (t' := tk) fun _ _ z => z, rfl, q⟩
theorem pa_two {Y : Cx} {a b : Expr} {ta tb : TE} (ha : PE Y a ta) (hb : PE Y b tb) (h1 : starEach [a, b] Y.env = (false, eval a Y.env) :: starEach [b] Y.env) (h2 : starEach [b] Y.env = (false, eval b Y.env) :: starEach [] Y.env) : PA Y [a, b] (tCons ta (tCons tb tNil)) := pa_cons ha (pa_cons hb pa_nil h2) h1
theorem ce_isE {is : Is} {a : Addr} {oe : Obj} {cls : Value} {d : Option Addr} {pn : List (Addr × Obj)} {c : Exn} {i : Nat} {n : Str} {b : Expr} {cV : L2.V} {cv : Value} {W' : WX} {p4 : Pos} (hK : X.K = G.K) (hg : Gl X "isinstance") (hm : X.mg "isinstance" = none) (hz : Zc cls d oe) (hf : ∃ vs, oe.data = .fields vs)
    (hb : PE (X.suite a ((a, oe) :: pn)) b (tC cV)) (hcv : ∀ u, RelV cV u → u = cv) (his : ∀ (nm : Str) (Ca : Addr) (x : Bool), G.cl nm = some Ca → is nm = some x → ExcK X.K Ca ∧ PySem.W.kitOne X.K (.ref Ca) cv = some x)
    (hi : X.N[i]? = some n) (hv : Vis X.env.scope n := by first | exact Or.inl rfl | exact Or.inr (Or.inl rfl) | exact Or.inr (Or.inr rfl)) (hd : (n == ("__debug__" : Str)) = false := by decide) (hcd : (n == ("__classdict__" : Str)) = false := by decide)
    (he : starEach [.Name n p4, b] X.env = (false, eval (.Name n p4) X.env) :: starEach [b] X.env := by rfl) (he2 : starEach [b] X.env = (false, eval b X.env) :: starEach [] X.env := by rfl) (hpl : (backTo pos (starEach [b] X.env)).any (·.1) = false := by rfl) :
    PE (X.suite a ((a, oe) :: pn)) (.Call (.Name "isinstance" p2) [.Name n p4, b] [] pos) (tM (G.suite i a cls d c) W' (mIsE is c)) := by
  refine ⟨fun pins s σ H Q I h => ?_⟩
  obtain ⟨β, ρ, S, R, Vr, h⟩ := h
  have f1 := Vr.fx (i, .ref a) List.mem_cons_self
  obtain ⟨Cb, dd, ys, h1, rfl, rfl, h4, h5⟩ := Vr.xx (cls, d, c) List.mem_cons_self
  unfold mIsE at h
  split at h
  · rename_i x hx
    obtain ⟨EK, hk⟩ := his c.cls Cb x h1 hx
    have rule := pe_callB (X := X.suite a ((a, oe) :: pn)) (p := p2) (call_isX EK hz hf) hg hm PyProof.Rows.boot_isinstance (pa_two (pe_var (X := X.suite a ((a, oe) :: pn)) (i := i) (pos := p4) hi hv hd hcd) hb he he2) (by decide) (by decide) he hpl
    exact rule.run pins s σ H Q I ⟨_, f1, cV, cv, x, dd, ys, rfl, hcv, rfl, h4, hk, h β H Ex.refl R _ (.bl _)⟩
  · exact h.elim
end
end Mi
namespace Mi
open PySem PySem.Spec PyProof.Rows L2
/-! ### small words for printed walks -/
theorem nofx0 {K : PySem.W.Frag} {cl : Str → Option Addr} {i : Nat} : noFx { K := K, cl := cl } i := fun p hp => by simp at hp
theorem nofxs {K : PySem.W.Frag} {cl : Str → Option Addr} {is : List Nat} : ∀ i ∈ is, noFx { K := K, cl := cl } i := fun _ _ => nofx0
theorem nofxS {G : Gs} {j : Nat} {a : Addr} {cls : Value} {d : Option Addr} {c : Exn} {i : Nat} (h : j ≠ i) (hn : noFx G i) : noFx (G.suite j a cls d c) i := fun p hp => by
  rcases List.mem_cons.mp hp with rfl | hp
  · exact h
  · exact hn p hp
theorem dfl0 {K : PySem.W.Frag} : Dfl K [] [] := fun _ _ => .nil
section
variable {X : Cx} {G : Gs} {W : WX} {pos : Pos}
theorem ce_gint {x : Str} {i : Int} (h : ∃ u, X.mg x = some u ∧ RelV (.int i) u) (hg : Gl X x := by rfl) (hd : (x == ("__debug__" : Str)) = false := by decide) : PE X (.Name x pos) (tM G W (mC (.int i))) := by
  obtain ⟨u, h1, h2⟩ := h
  exact ce_glob h1 h2 (fun _ _ => .int _) hg hd
theorem ce_gstr {x y : Str} (h : ∃ u, X.mg x = some u ∧ RelV (.str y) u) (hg : Gl X x := by rfl) (hd : (x == ("__debug__" : Str)) = false := by decide) : PE X (.Name x pos) (tM G W (mC (.str y))) := by
  obtain ⟨u, h1, h2⟩ := h
  exact ce_glob h1 h2 (fun _ _ => .str _) hg hd
end
end Mi
namespace Mi
open PySem PySem.Spec PyProof.Rows L2
/-! ### facts of the top, put together -/
section
variable {K : PySem.W.Frag} {C B : Addr}
theorem oex_mk {nm q : Str} {N : Addr} {bs bm : List Value} {sn : List Str} {sub : List Value} {ab : Bool} {col : Option Bool} {dd : Option Addr} {k0 k1 k2 k3 k5 : Option Value}
    (l : K.lookup C = some (excClassObj nm q C N bs bm true sn sub ab col dd k0 k1 k2 k3 k5 "ValueError.__new__")) (r : PySem.HandSPX.refsVE bm = true) (sa : PySem.W.findIn K (.ref C) "__setattr__" = some (some (.builtin "object.__setattr__")))
    (ex : PySem.W.subIn K (.ref C) (.type "BaseException") = some true) (ty : PySem.W.typeIn K (.ref C) = some (.type "type")) (kp : PySem.W.keepIn K (.ref C) = true) : OexC K C :=
  ⟨⟨_, _, _, _, _, _, _, _, _, _, _, _, _, _, _, l, r⟩, sa, ex, ty, kp⟩
theorem ek_mk (hd : PySem.W.hasDictIn K C = true) (ga : PySem.W.findIn K (.ref C) "__getattribute__" = some (some (.builtin "BaseException.__getattribute__"))) (gt : PySem.W.findIn K (.ref C) "__getattr__" = some none) (sb : PySem.W.subIn K (.ref C) (.type "BaseException") = some true)
    (ca : PySem.W.findIn K (.ref C) "__class__" = some (some (.builtin "object.__class__"))) (sp : PySem.W.specialIn K (.builtin "object.__class__") "__get__" = some (some (.builtin "getset_descriptor.__get__"))) (tk : PySem.W.takesIn K (.builtin "object.__class__") = some true)
    (ob : PySem.W.mroIn K C (.type "object") = some true) : ExcK K C ∧ XfC K C := by
  obtain ⟨cd, hc, _⟩ := PySem.W.any_some hd
  exact ⟨⟨by rw [hc]; rfl, ga, gt, sb, ca, sp, tk, ob⟩, ⟨ga, gt, sb, hd⟩⟩
theorem ct_mk {b : Bool} (h1 : PySem.W.subIn K (.ref C) (.type "BaseException") = some true) (hd : PySem.W.hasDictIn K C = true) (ht : PySem.W.typeIn K (.ref C) = some (.type "type")) (h4 : PySem.W.subIn K (.ref B) (.ref C) = some b) : PySem.W.exmOne K (.ref B) (.ref C) = some b := PySem.W.exm_ref h1 hd ht h4
theorem ki_mk {b : Bool} (hd : PySem.W.hasDictIn K C = true) (ht : PySem.W.typeIn K (.ref C) = some (.type "type")) (h4 : PySem.W.subIn K (.ref B) (.ref C) = some b) (hs : B = C → b = true) : PySem.W.kitOne K (.ref B) (.ref C) = some b := by
  obtain ⟨cd, hc, _⟩ := PySem.W.any_some hd
  unfold PySem.W.kitOne
  split
  · rename_i h
    have : B = C := by
      have := eq_of_beq h
      exact Value.ref.inj this
    rw [hs this]
  · show (if _ then _ else _) = _
    rw [hc, ht]
    exact h4
theorem kt_mk {b : Bool} {T : String} (hm : PySem.W.kitMeta T = true) (h4 : PySem.W.subIn K (.ref B) (.type T) = some b) : PySem.W.kitOne K (.ref B) (.type T) = some b := by
  unfold PySem.W.kitOne
  have : (Value.ref B == Value.type T) = false := rfl
  rw [if_neg (by rw [this]; decide)]
  show (if _ then _ else _) = _
  rw [if_pos hm]
  exact h4
theorem sup_mk {P : Program} {mg : Str → Option Value} {st : Stmt} {qual : Str} {f cda cc : Addr} {oc : Value} {od an : Option Addr} {kV doc pm ct : Value} {osl : Array (Option Value)} {ccl cll : Value} {cdd cld : Option Addr} {vs : Array Value} {ccs csl : Array (Option Value)} {file : Str} {tf : Tok}
    (l : K.lookup f = some ⟨oc, od, .func (PySem.W.fnX "__init__" qual (defArgs st) (defBody st) (defScope st) [("__class__", cc)] .none kV doc pm an (.ref cda) ct), osl⟩) (c : PySem.W.codeIn K (.ref cda) qual = true)
    (l2 : K.lookup cda = some ⟨ccl, cdd, .fields vs, ccs⟩) (hv : vs[2]? = some (.str file tf)) (hf : ((P.main.file : Str) == file) = true) (l3 : K.lookup cc = some ⟨cll, cld, .cell (some (.ref C)), csl⟩)
    (top : (P.main.scope.names.lookup ("super" : Str)).isSome = false) (sup : mg "super" = none) (opq : PySem.W.nsIn K PySem.cStatics "thirdparty.any" = some none) (own : PySem.W.mroIn K C (.ref C) = some true) (val : PySem.W.subIn K (.ref C) (.type "ValueError") = some true)
    (ini : PySem.W.ks_superIn K C C "__init__" = some (some (.builtin "ValueError.__init__"))) :
    SupTxt P K mg st qual f (PySem.W.fnX "__init__" qual (defArgs st) (defBody st) (defScope st) [("__class__", cc)] .none kV doc pm an (.ref cda) ct) C :=
  ⟨⟨oc, od, kV, doc, pm, an, cda, cc, ct, osl, rfl, l, c, ⟨ccl, cdd, vs, ccs, file, tf, l2, hv, hf⟩, cll, cld, csl, l3⟩, top, sup, opq, own, val, ini⟩
/-- the law's promise: a list of at most n ints is handed in, True comes out -/
def spLaw (n : Nat) (K : PySem.W.Frag) : Sp := fun vs H Q _ => ∃ (a : Addr) (ns : List Int), vs = [.ref a] ∧ FzL K H a (ns.map L2.V.int) ∧ ns.length ≤ n ∧ ∀ H', Q (.bl true) H'
theorem fz_of {H : Hp} {a : Addr} {xs : List L2.V} (hO : Only H) (h : SqL K H a xs) : FzL K H a xs := by
  rcases h with (h | ⟨o, h⟩) | h
  · rcases hO a with z | ⟨o, ys, z⟩
    · rw [z] at h
      cases h
    · rw [z] at h
      cases h
  · exact .inl ⟨o, h⟩
  · exact .inr fun H' => .inr h
theorem law_sp {n : Nat} {cl : Str → Option Addr} {m : MF} (h : ∀ ns : List Int, ns.length ≤ n → ∃ S, m [.frl (ns.map D.int)] [] = .ok (.bl true) S) (vs : List L2.V) (H : Hp) (Q : VK) (E : XK) (q : spLaw n K vs H Q E) : spM K cl 1 m vs H Q E := by
  obtain ⟨a, ns, rfl, hf, hl, k⟩ := q
  obtain ⟨S, e⟩ := h ns hl
  refine ⟨[], [.frl (ns.map D.int)], [], ⟨rfl, fun m n a h => by simp at h, fun n a o h => by simp at h⟩, .cons (.frl hf (RDs.ints ns)) .nil, rfl, ?_⟩
  rw [e]
  intro β' H' e' R' v rv
  cases rv
  exact k H'
theorem law_walk {l : PySem.W.OpenLaw} {q : Program} {loose : List Str} {XP : (Str → Option Value) → Heap → Prop} {YP : World → Heap → Prop} {d : DefRec} {K : Params → PySem.W.Frag} {k : Nat} {x : Str} (hn : l.most = some 63) (hdf : d.params.defaults = []) (hr : Room k callerA)
    (hY : ∀ (w : World) (h : Heap), YP w h → (K w.params).In h)
    (F : ∀ (w : World) (mg : Str → Option Value) (fa : Addr) (h : Heap), (K w.params).In h → h.Ns mainGlobals mg → mg d.name = some (.ref fa) →
      ∃ fd : FuncData, (∀ (s : Shared) (u : Value), BindsTo s fd ⟨[u], []⟩ [(x, u)]) ∧ ∀ base : Heap, (K w.params).In base → base.Ns mainGlobals mg → FnOk l.prog w (K w.params) mg base (L2.CX l.prog w) k fa fd [x] (spLaw 63 (K w.params))) :
    PySem.W.WalkO q loose XP YP l.row.toRowW d [] (fun f vs => PySem.call f vs) :=
  L2.walk_of (n := 63) (k := k) (x := x) (CX := fun w => L2.CX l.prog w) (sp := fun w => spLaw 63 (K w.params)) hn (by decide) hdf hr hY F (fun w H a ns hl hO hS => ⟨a, ns, rfl, fz_of hO hS, hl, fun _ => rfl⟩) fun w H s e s' z => by
    obtain ⟨_, _, _, _, _, _, _, _, _, _, _, _, z⟩ := z
    exact z
end
end Mi
namespace Mi
open PySem
/-! ### what a mirror gives, by steps -/
def Wp {α : Type} (r : Rs α) (Q : α → So → Prop) : Prop := match r with
  | .ok a S => Q a S
  | _ => False
section
variable {α γ : Type} {r : Rs α} {Q Q' : α → So → Prop} {ρ : Ro} {S : So}
theorem Wp.get (h : Wp r Q) : ∃ a S, r = .ok a S ∧ Q a S := by
  cases r with
  | ok a S => exact ⟨a, S, rfl, h⟩
  | ex c r S => exact h.elim
  | stuck => exact h.elim
theorem Wp.ok {a : α} {S' : So} (e : r = .ok a S') (h : Q a S') : Wp r Q := by
  rw [e]
  exact h
theorem Wp.mono (h : Wp r Q) (hq : ∀ a S, Q a S → Q' a S) : Wp r Q' := by
  cases r with
  | ok a S => exact hq a S h
  | ex c r S => exact h.elim
  | stuck => exact h.elim
theorem Wp.bind {f : α → So → Rs γ} {P : γ → So → Prop} (h : Wp r fun a S => Wp (f a S) P) : Wp (r.bind f) P := by
  cases r with
  | ok a S => exact h
  | ex c r S => exact h.elim
  | stuck => exact h.elim
theorem Wp.ite {c : Bool} {x y : Rs α} (h1 : c = true → Wp x Q) (h2 : c = false → Wp y Q) : Wp (if c then x else y) Q := by
  cases c with
  | true => exact h1 rfl
  | false => exact h2 rfl
theorem Wp.itep {c : Prop} [Decidable c] {x y : Rs α} (h1 : c → Wp x Q) (h2 : ¬ c → Wp y Q) : Wp (if c then x else y) Q := by
  by_cases h : c
  · rw [if_pos h]
    exact h1 h
  · rw [if_neg h]
    exact h2 h
theorem Wp.pos {c : Prop} [Decidable c] {x y : Rs α} (h : c) (h1 : Wp x Q) : Wp (if c then x else y) Q := by
  rw [if_pos h]
  exact h1
theorem Wp.neg {c : Prop} [Decidable c] {x y : Rs α} (h : ¬ c) (h1 : Wp y Q) : Wp (if c then x else y) Q := by
  rw [if_neg h]
  exact h1
end
section
variable {ρ : Ro} {S : So} {Q : D → So → Prop} {T : Bool → So → Prop} {R : List D → So → Prop} {B : Fl × Ro → So → Prop} {m ma mb mc mo mi' : ME} {mt mu : MT} {mr : MA} {s1 s2 : MS} {mi : MI} {bn : Bnd} {f g : D → D → So → Rs D} {u : D → So → Rs D}
theorem Wp.var {i : Nat} {d : D} (e : ρ[i]? = some (some d)) (h : Q d S) : Wp (mVar i ρ S) Q := by
  unfold mVar
  rw [e]
  exact h
theorem Wp.c {d : D} (h : Q d S) : Wp (mC d ρ S) Q := h
theorem Wp.m1 (h : Wp (ma ρ S) fun d S1 => Wp (u d S1) Q) : Wp (Mi.m1 u ma ρ S) Q := h.bind
theorem Wp.m2 (h : Wp (ma ρ S) fun d S1 => Wp (mb ρ S1) fun e S2 => Wp (f d e S2) Q) : Wp (Mi.m2 f ma mb ρ S) Q := Wp.bind (h.mono fun _ _ h => h.bind)
theorem Wp.b (h : Wp (m ρ S) fun d S1 => Wp (asB d S1) T) : Wp (mB m ρ S) T := h.bind
theorem Wp.asB {b : Bool} (h : T b S) : Wp (Mi.asB (.bl b) S) T := h
theorem Wp.and (h : Wp (mt ρ S) fun c S1 => (c = true → Wp (mu ρ S1) T) ∧ (c = false → T false S1)) : Wp (mAnd mt mu ρ S) T := Wp.bind (h.mono fun c S1 h => by
  cases c with
  | true => exact h.1 rfl
  | false => exact h.2 rfl)
theorem Wp.or (h : Wp (mt ρ S) fun c S1 => (c = true → T true S1) ∧ (c = false → Wp (mu ρ S1) T)) : Wp (mOr mt mu ρ S) T := Wp.bind (h.mono fun c S1 h => by
  cases c with
  | true => exact h.1 rfl
  | false => exact h.2 rfl)
theorem Wp.not (h : Wp (mt ρ S) fun c S1 => T (!c) S1) : Wp (mNot mt ρ S) T := Wp.bind h
theorem Wp.andV (h : Wp (ma ρ S) fun c S1 => ∃ b, c = .bl b ∧ (b = true → Wp (mb ρ S1) Q) ∧ (b = false → Q (.bl false) S1)) : Wp (mAndV ma mb ρ S) Q := Wp.bind (h.mono fun c S1 ⟨b, e, h⟩ => by
  subst e
  cases b with
  | true => exact h.1 rfl
  | false => exact h.2 rfl)
theorem Wp.orV (h : Wp (ma ρ S) fun c S1 => ∃ b, c = .bl b ∧ (b = true → Q (.bl true) S1) ∧ (b = false → Wp (mb ρ S1) Q)) : Wp (mOrV ma mb ρ S) Q := Wp.bind (h.mono fun c S1 ⟨b, e, h⟩ => by
  subst e
  cases b with
  | true => exact h.1 rfl
  | false => exact h.2 rfl)
theorem Wp.notV (h : Wp (ma ρ S) fun c S1 => ∃ b, c = .bl b ∧ Q (.bl (!b)) S1) : Wp (mNotV ma ρ S) Q := Wp.bind (h.mono fun c S1 ⟨b, e, h⟩ => by
  subst e
  exact h)
theorem Wp.iteE (h : Wp (mt ρ S) fun c S1 => (c = true → Wp (ma ρ S1) Q) ∧ (c = false → Wp (mb ρ S1) Q)) : Wp (mIte mt ma mb ρ S) Q := Wp.bind (h.mono fun c S1 h => by
  cases c with
  | true => exact h.1 rfl
  | false => exact h.2 rfl)
theorem Wp.chain (h : Wp (ma ρ S) fun d S1 => Wp (mb ρ S1) fun e S2 => Wp (f d e S2) fun z S3 => ∃ b, z = .bl b ∧ (b = true → Wp (mc ρ S3) fun w S4 => Wp (g e w S4) Q) ∧ (b = false → Q (.bl false) S3)) : Wp (mChain f g ma mb mc ρ S) Q :=
  Wp.bind (h.mono fun _ _ h => Wp.bind (h.mono fun _ _ h => Wp.bind (h.mono fun z S1 ⟨b, e, h⟩ => by
    subst e
    cases b with
    | true => exact (h.1 rfl).bind
    | false => exact h.2 rfl)))
theorem Wp.nilA (h : R [] S) : Wp (mNilA ρ S) R := h
theorem Wp.consA (h : Wp (m ρ S) fun d S1 => Wp (mr ρ S1) fun ds S2 => R (d :: ds) S2) : Wp (mConsA m mr ρ S) R := Wp.bind (h.mono fun _ _ h => Wp.bind h)
theorem Wp.tup (h : Wp (mr ρ S) fun ds S1 => ds.length ≤ lim ∧ Q (.tup ds) S1) : Wp (mTup mr ρ S) Q := Wp.bind (h.mono fun _ _ h => Wp.pos h.1 h.2)
theorem Wp.lst (h : Wp (mr ρ S) fun ds S1 => ds.length ≤ lim ∧ Q (.ref S1.length) (S1 ++ [.lst ds])) : Wp (mLst mr ρ S) Q := Wp.bind (h.mono fun _ _ h => Wp.pos h.1 h.2)
theorem Wp.dict0 (h : Q (.ref S.length) (S ++ [.dct []])) : Wp (mDict0 ρ S) Q := h
theorem Wp.noPart {O : Option Int → So → Prop} (h : O none S) : Wp (mNoPart ρ S) O := h
theorem Wp.part {O : Option Int → So → Prop} (h : Wp (m ρ S) fun d S1 => ∃ i, d = .int i ∧ O (some i) S1) : Wp (mPart m ρ S) O := Wp.bind (h.mono fun _ _ ⟨i, e, h⟩ => by
  subst e
  exact h)
theorem Wp.sl {ml mh : MO} (h : Wp (m ρ S) fun d S1 => Wp (ml ρ S1) fun l S2 => Wp (mh ρ S2) fun u S3 => Wp (slD d l u S3) Q) : Wp (mSl m ml mh ρ S) Q := Wp.bind (h.mono fun _ _ h => Wp.bind (h.mono fun _ _ h => Wp.bind h))
theorem Wp.callB {F : List D → So → Rs D} (h : Wp (mr ρ S) fun ds S1 => Wp (F ds S1) Q) : Wp (mCallB F mr ρ S) Q := Wp.bind h
theorem Wp.meth {ok : So → D → Bool} {F : D → List D → So → Rs D} (h : Wp (mo ρ S) fun d S1 => ok S1 d = true ∧ Wp (mr ρ S1) fun ds S2 => Wp (F d ds S2) Q) : Wp (mMeth ok F mo mr ρ S) Q := Wp.bind (h.mono fun _ _ h => Wp.pos h.1 (Wp.bind h.2))
theorem Wp.is {ty : Ty} (h : Wp (m ρ S) fun d S1 => ∃ t, tyO S1 d = some t ∧ Q (.bl (isTy t ty)) S1) : Wp (mIs ty m ρ S) Q := Wp.bind (h.mono fun _ _ ⟨t, e, h⟩ => by
  simp only [e]
  exact h)
theorem Wp.joinNil {acc : Str} (h : Q (.str acc) S) : Wp (joinGo [] acc ρ S) Q := h
theorem Wp.joinCons {acc : Str} {ms : List ME} (h : Wp (m ρ S) fun d S1 => ∃ y, d = .str y ∧ (acc ++ y).length ≤ lim ∧ Wp (joinGo ms (acc ++ y) ρ S1) Q) : Wp (joinGo (m :: ms) acc ρ S) Q := Wp.bind (h.mono fun _ _ ⟨y, e, h1, h2⟩ => by
  subst e
  exact Wp.pos h1 h2)
theorem Wp.join {ms : List ME} (h : Wp (joinGo ms Str.empty ρ S) Q) : Wp (mJoin ms ρ S) Q := h
theorem Wp.call {F : MF} {n : Nat} {dds : List D} (h : Wp (mr ρ S) fun ds S1 => (ds ++ dds).length = n ∧ Wp (F (ds ++ dds) S1) Q) : Wp (mCall F n dds mr ρ S) Q := Wp.bind (h.mono fun ds S1 h => Wp.pos h.1 (by
  obtain ⟨d, S2, e, q⟩ := h.2.get
  rw [e]
  exact q))
theorem Wp.seq (h : Wp (s1 ρ S) fun p S1 => (p.1 = .nx → Wp (s2 p.2 S1) B) ∧ (p.1 ≠ .nx → B p S1)) : Wp (mSeq s1 s2 ρ S) B := Wp.bind (h.mono fun p S1 h => by
  obtain ⟨f, ρ'⟩ := p
  cases f with
  | nx => exact h.1 rfl
  | bk => exact h.2 (fun z => by cases z)
  | ct => exact h.2 (fun z => by cases z)
  | rt d => exact h.2 (fun z => by cases z))
theorem Wp.nx {s2 : MS} {ρ' : Ro} (h : Wp (s2 ρ' S) B) : ((Fl.nx, ρ').1 = .nx → Wp (s2 (Fl.nx, ρ').2 S) B) ∧ ((Fl.nx, ρ').1 ≠ .nx → B (Fl.nx, ρ') S) := ⟨fun _ => h, fun z => absurd rfl z⟩
theorem Wp.rt {s2 : MS} {ρ' : Ro} {d : D} (h : B (.rt d, ρ') S) : ((Fl.rt d, ρ').1 = .nx → Wp (s2 (Fl.rt d, ρ').2 S) B) ∧ ((Fl.rt d, ρ').1 ≠ .nx → B (Fl.rt d, ρ') S) := ⟨(fun z => Fl.noConfusion z), fun _ => h⟩
theorem Wp.bk {s2 : MS} {ρ' : Ro} (h : B (.bk, ρ') S) : ((Fl.bk, ρ').1 = .nx → Wp (s2 (Fl.bk, ρ').2 S) B) ∧ ((Fl.bk, ρ').1 ≠ .nx → B (Fl.bk, ρ') S) := ⟨(fun z => Fl.noConfusion z), fun _ => h⟩
theorem Wp.ct {s2 : MS} {ρ' : Ro} (h : B (.ct, ρ') S) : ((Fl.ct, ρ').1 = .nx → Wp (s2 (Fl.ct, ρ').2 S) B) ∧ ((Fl.ct, ρ').1 ≠ .nx → B (Fl.ct, ρ') S) := ⟨(fun z => Fl.noConfusion z), fun _ => h⟩
theorem Wp.skip (h : B (.nx, ρ) S) : Wp (mSkip ρ S) B := h
theorem Wp.brk (h : B (.bk, ρ) S) : Wp (mBk ρ S) B := h
theorem Wp.cnt (h : B (.ct, ρ) S) : Wp (mCt ρ S) B := h
theorem Wp.drop (h : Wp (m ρ S) fun _ S1 => B (.nx, ρ) S1) : Wp (mDrop m ρ S) B := Wp.bind h
theorem Wp.ret (h : Wp (m ρ S) fun d S1 => B (.rt d, ρ) S1) : Wp (mRet m ρ S) B := Wp.bind h
theorem Wp.retN (h : B (.rt .non, ρ) S) : Wp (mRetN ρ S) B := h
theorem Wp.if_ (h : Wp (mt ρ S) fun c S1 => (c = true → Wp (s1 ρ S1) B) ∧ (c = false → Wp (s2 ρ S1) B)) : Wp (mIf mt s1 s2 ρ S) B := Wp.bind (h.mono fun c S1 h => by
  cases c with
  | true => exact h.1 rfl
  | false => exact h.2 rfl)
theorem Wp.asg (h : Wp (m ρ S) fun d S1 => ∃ ρ', bn d ρ = some ρ' ∧ B (.nx, ρ') S1) : Wp (mAsg m bn ρ S) B := Wp.bind (h.mono fun d S1 ⟨ρ', e, h⟩ => by
  simp only [e]
  exact h)
theorem Wp.asgN {i : Nat} (h : Wp (m ρ S) fun d S1 => B (.nx, ρ.set i (some d)) S1) : Wp (mAsg m (bN i) ρ S) B := Wp.asg (h.mono fun d S1 h => ⟨_, rfl, h⟩)
theorem Wp.aug {i : Nat} {d : D} (e : ρ[i]? = some (some d)) (h : Wp (m ρ S) fun x S1 => Wp (f d x S1) fun z S2 => B (.nx, ρ.set i (some z)) S2) : Wp (mAug i f m ρ S) B := by
  unfold mAug
  rw [e]
  exact Wp.bind (h.mono fun _ _ h => Wp.bind h)
theorem Wp.store {F : D → D → D → So → Rs Unit} (h : Wp (mc ρ S) fun z S1 => Wp (mo ρ S1) fun d S2 => Wp (mi' ρ S2) fun e S3 => Wp (F d e z S3) fun _ S4 => B (.nx, ρ) S4) : Wp (mStore F mo mi' mc ρ S) B :=
  Wp.bind (h.mono fun _ _ h => Wp.bind (h.mono fun _ _ h => Wp.bind (h.mono fun _ _ h => Wp.bind h)))
/-- how a body ends, as a def's value -/
def fnK (Q : D → So → Prop) : Fl × Ro → So → Prop := fun p S => match p.1 with
  | .nx => Q .non S
  | .rt d => Q d S
  | _ => False
theorem Wp.fn {n N : Nat} {s : MS} {ds : List D} (h : Wp (s (ds.map some ++ List.replicate (N - n) none) S) (fnK Q)) : Wp (mFn n N s ds S) Q := Wp.bind (h.mono fun p S1 h => by
  obtain ⟨f, ρ'⟩ := p
  cases f with
  | nx => exact h
  | rt d => exact h
  | bk => exact h.elim
  | ct => exact h.elim)
theorem fnK.rt {d : D} {ρ' : Ro} (h : Q d S) : fnK Q (.rt d, ρ') S := h
theorem fnK.nx {ρ' : Ro} (h : Q .non S) : fnK Q (.nx, ρ') S := h
/-! ### loops over values that are known -/
/-- the end of a turn: on with the next one, or out -/
def turnK (N : Ro → So → Prop) (B : Fl × Ro → So → Prop) : Fl × Ro → So → Prop := fun p S => match p.1 with
  | .nx => N p.2 S
  | .ct => N p.2 S
  | .bk => B (.nx, p.2) S
  | .rt d => B (.rt d, p.2) S
theorem vals_go {ds : List D} {s : MS} (I : Nat → Ro → So → Prop) (hturn : ∀ i d ρ S, ds[i]? = some d → I i ρ S → ∃ ρ1, bn d ρ = some ρ1 ∧ Wp (s ρ1 S) (turnK (I (i + 1)) B)) (hend : ∀ ρ S, I ds.length ρ S → B (.nx, ρ) S) :
    ∀ (k i : Nat) (ρ : Ro) (S : So), i + k = ds.length → I i ρ S → Wp (forGo (.vals ds) bn s k i ρ S) B
  | 0, i, ρ, S, e, h => by
    have : ds[i]? = none := List.getElem?_eq_none (by omega)
    unfold forGo
    simp only [IT.at, this]
    have : i = ds.length := by omega
    subst this
    exact hend ρ S h
  | k + 1, i, ρ, S, e, h => by
    have hi : i < ds.length := by omega
    have hd : ds[i]? = some ds[i] := List.getElem?_eq_getElem hi
    obtain ⟨ρ1, hb, hw⟩ := hturn i _ ρ S hd h
    unfold forGo
    simp only [IT.at, hd, hb]
    refine Wp.bind (hw.mono fun p S1 q => ?_)
    obtain ⟨f, ρ2⟩ := p
    cases f with
    | nx => exact vals_go I hturn hend k (i + 1) ρ2 S1 (by omega) q
    | ct => exact vals_go I hturn hend k (i + 1) ρ2 S1 (by omega) q
    | bk => exact q
    | rt d => exact q
theorem Wp.forV {s : MS} (h : Wp (mi ρ S) fun it S1 => ∃ ds, it = .vals ds ∧ ∃ I : Nat → Ro → So → Prop, I 0 ρ S1 ∧ (∀ i d ρ S, ds[i]? = some d → I i ρ S → ∃ ρ1, bn d ρ = some ρ1 ∧ Wp (s ρ1 S) (turnK (I (i + 1)) B)) ∧ (∀ ρ S, I ds.length ρ S → B (.nx, ρ) S)) : Wp (mFor mi bn s ρ S) B :=
  Wp.bind (h.mono fun it S1 ⟨ds, e, I, h0, h1, h2⟩ => by
    subst e
    exact vals_go I h1 h2 ds.length 0 ρ S1 (by omega) h0)
theorem Wp.itV {P : IT → So → Prop} (h : Wp (m ρ S) fun d S1 => (∃ ds, (d = .tup ds ∨ d = .frl ds) ∧ P (.vals ds) S1) ∨ (∃ x, d = .str x ∧ P (.vals (chD x)) S1) ∨ ∃ n ds, d = .ref n ∧ S1[n]? = some (.lst ds) ∧ P (.lst n) S1) : Wp (mIt m ρ S) P := Wp.bind (h.mono fun d S1 h => by
  rcases h with ⟨ds, rfl | rfl, h⟩ | ⟨x, rfl, h⟩ | ⟨n, ds, rfl, e, h⟩
  · exact h
  · exact h
  · exact h
  · simp only [e]
    exact h)
theorem Wp.rng1 {P : IT → So → Prop} (h : Wp (mr ρ S) fun ds S1 => ∃ j : Int, ds = [.int j] ∧ (j ≤ (lim : Int) ∧ -(2 ^ 62) ≤ j) ∧ P (.vals ((List.range j.toNat).map fun (k : Nat) => D.int (0 + (k : Int)))) S1) : Wp (mRng1 mr ρ S) P := Wp.bind (h.mono fun _ _ ⟨j, e, hc, h⟩ => by
  subst e
  exact Wp.pos hc h)
/-! ### comprehensions over values that are known -/
theorem lc_go {ds : List D} {n : Nat} (I : Nat → So → Prop) (hturn : ∀ i d S, ds[i]? = some d → I i S → ∃ ρ1, bn d ρ = some ρ1 ∧ Wp (mt ρ1 S) fun c S1 => (c = true → Wp (m ρ1 S1) fun y S2 => ∃ acc, S2[n]? = some (.lst acc) ∧ acc.length < lim ∧ I (i + 1) (S2.set n (.lst (acc ++ [y])))) ∧ (c = false → I (i + 1) S1)) (hend : ∀ S, I ds.length S → Q (.ref n) S) :
    ∀ (k i : Nat) (S : So), i + k = ds.length → I i S → Wp (lcGo (.vals ds) bn mt m n k i ρ S) Q
  | 0, i, S, e, h => by
    have : ds[i]? = none := List.getElem?_eq_none (by omega)
    unfold lcGo
    simp only [IT.at, this]
    have : i = ds.length := by omega
    subst this
    exact hend S h
  | k + 1, i, S, e, h => by
    have hi : i < ds.length := by omega
    have hd : ds[i]? = some ds[i] := List.getElem?_eq_getElem hi
    obtain ⟨ρ1, hb, hw⟩ := hturn i _ S hd h
    unfold lcGo
    simp only [IT.at, hd, hb]
    obtain ⟨c, S1, e1, h1⟩ := hw.get
    rw [e1]
    cases c with
    | false => exact lc_go I hturn hend k (i + 1) S1 (by omega) (h1.2 rfl)
    | true =>
      obtain ⟨y, S2, e2, acc, e3, hl, h2⟩ := (h1.1 rfl).get
      simp only [if_true, e2, e3, if_pos hl]
      exact lc_go I hturn hend k (i + 1) _ (by omega) h2
theorem Wp.lcV {vs : List Nat} (h : Wp (mi ρ S) fun it S1 => ∃ ds, it = .vals ds ∧ ∃ I : Nat → So → Prop, I 0 (S1 ++ [.lst []]) ∧
    (∀ i d S, ds[i]? = some d → I i S → ∃ ρ1, bn d (wipeR ρ vs) = some ρ1 ∧ Wp (mt ρ1 S) fun c S2 => (c = true → Wp (m ρ1 S2) fun y S3 => ∃ acc, S3[S1.length]? = some (.lst acc) ∧ acc.length < lim ∧ I (i + 1) (S3.set S1.length (.lst (acc ++ [y])))) ∧ (c = false → I (i + 1) S2)) ∧
    (∀ S, I ds.length S → Q (.ref S1.length) S)) : Wp (mLc mi bn mt m vs ρ S) Q :=
  Wp.bind (h.mono fun it S1 ⟨ds, e, I, h0, h1, h2⟩ => by
    subst e
    exact lc_go I h1 h2 ds.length 0 _ (by omega) h0)
theorem Wp.yes (h : T true S) : Wp (mYes ρ S) T := h
end
end Mi
namespace Mi
section
variable {S : So} {Q : D → So → Prop} {X Y : Prop}
theorem Wp.bt {b : Bool} (e : b = true) (h : X) : (b = true → X) ∧ (b = false → Y) := ⟨fun _ => h, fun z => by rw [e] at z; cases z⟩
theorem Wp.bf {b : Bool} (e : b = false) (h : Y) : (b = true → X) ∧ (b = false → Y) := ⟨(fun z => by rw [e] at z; cases z), fun _ => h⟩
/-- a leaf: an operation on values that is worked out -/
theorem Wp.op2 {f : D → D → So → Rs D} {d e a : D} {S' : So} (h1 : f d e S = .ok a S') (h : Q a S') : Wp (f d e S) Q := Wp.ok h1 h
theorem Wp.op1 {f : D → So → Rs D} {d a : D} {S' : So} (h1 : f d S = .ok a S') (h : Q a S') : Wp (f d S) Q := Wp.ok h1 h
theorem Wp.opL {f : List D → So → Rs D} {d : List D} {a : D} {S' : So} (h1 : f d S = .ok a S') (h : Q a S') : Wp (f d S) Q := Wp.ok h1 h
theorem ix_lst {n : Nat} {ds : List D} {i : Int} {z : D} (h : S[n]? = some (.lst ds)) (hz : L2.atI ds i = some z) : ixD (.ref n) (.int i) S = .ok z S := by
  unfold ixD ixO vw
  simp only [h, hz]
theorem ix_tup {ds : List D} {i : Int} {z : D} (hz : L2.atI ds i = some z) : ixD (.tup ds) (.int i) S = .ok z S := by
  unfold ixD ixO vw
  simp only [hz]
theorem len_lst {n : Nat} {ds : List D} (h : S[n]? = some (.lst ds)) : lenD [.ref n] S = .ok (.int ds.length) S := by
  unfold lenD lenO vw
  simp only [h]
theorem set_lst {n j : Nat} {ds : List D} {i : Int} {z : D} (h : S[n]? = some (.lst ds)) (hj : L2.ixN ds.length i = some j) : setD (.ref n) (.int i) z S = .ok () (S.set n (.lst (ds.set j z))) := by
  unfold setD setL
  simp only [h, hj]
theorem app_lst {n : Nat} {ds : List D} {z : D} (h : S[n]? = some (.lst ds)) (hl : ds.length < lim) : appendD (.ref n) [z] S = .ok .non (S.set n (.lst (ds ++ [z]))) := by
  unfold appendD
  simp only [h, if_pos hl]
end
end Mi
namespace Mi
section
variable {N : Ro → So → Prop} {B : Fl × Ro → So → Prop} {ρ : Ro} {S : So} {d : D}
theorem turnK.nx (h : N ρ S) : turnK N B (.nx, ρ) S := h
theorem turnK.ct (h : N ρ S) : turnK N B (.ct, ρ) S := h
theorem turnK.bk (h : B (.nx, ρ) S) : turnK N B (.bk, ρ) S := h
theorem turnK.rt (h : B (.rt d, ρ) S) : turnK N B (.rt d, ρ) S := h
end
end Mi
namespace Mi
section
variable {S : So} {a b c d : D} {ds : List D}
theorem ix_t0 : ixD (.tup (a :: ds)) (.int 0) S = .ok a S := ix_tup (by
  have : (0 : Int) < ((a :: ds).length : Nat) := by simp only [List.length_cons]; omega
  unfold L2.atI L2.ixN
  rw [if_pos (by decide), if_pos this]
  rfl)
theorem ix_t1 : ixD (.tup (a :: b :: ds)) (.int 1) S = .ok b S := ix_tup (by
  have : (1 : Int) < ((a :: b :: ds).length : Nat) := by simp only [List.length_cons]; omega
  unfold L2.atI L2.ixN
  rw [if_pos (by decide), if_pos this]
  rfl)
theorem ix_t2 : ixD (.tup (a :: b :: c :: ds)) (.int 2) S = .ok c S := ix_tup (by
  have : (2 : Int) < ((a :: b :: c :: ds).length : Nat) := by simp only [List.length_cons]; omega
  unfold L2.atI L2.ixN
  rw [if_pos (by decide), if_pos this]
  rfl)
theorem ix_t3 : ixD (.tup (a :: b :: c :: d :: ds)) (.int 3) S = .ok d S := ix_tup (by
  have : (3 : Int) < ((a :: b :: c :: d :: ds).length : Nat) := by simp only [List.length_cons]; omega
  unfold L2.atI L2.ixN
  rw [if_pos (by decide), if_pos this]
  rfl)
end
end Mi
namespace Mi
section
variable {Q : D → So → Prop} {ρ : Ro} {S : So}
theorem Wp.isE {is : Is} {c : Exn} {b : Bool} (e : is c.cls = some b) (h : Q (.bl b) S) : Wp (mIsE is c ρ S) Q := by
  unfold mIsE
  simp only [e]
  exact h
theorem Wp.xf {nm fld : PySem.Str} {c : Exn} {d : D} (e : (if c.cls = nm then c.fs.lookup fld else none) = some d) (h : Q d S) : Wp (mXf nm fld c ρ S) Q := by
  unfold mXf
  by_cases hc : c.cls = nm
  · rw [if_pos hc] at e
    simp only [if_pos hc, e]
    exact h
  · rw [if_neg hc] at e
    cases e
end
end Mi
namespace Mi
open PySem
section
variable {B : Fl × Ro → So → Prop} {ρ : Ro} {S : So} {d : D} {mi : MI} {bn : Bnd} {s mb : MS} {is : Is} {i : Nat} {ms : Exn → MS}
/-- a loop over values, turn by turn -/
def loopP (bn : Bnd) (s : MS) (B : Fl × Ro → So → Prop) : List D → Ro → So → Prop
  | [], ρ, S => B (.nx, ρ) S
  | d :: ds, ρ, S => ∃ ρ1, bn d ρ = some ρ1 ∧ Wp (s ρ1 S) (turnK (loopP bn s B ds) B)
theorem Wp.forL (h : Wp (mi ρ S) fun it S1 => ∃ ds, it = .vals ds ∧ loopP bn s B ds ρ S1) : Wp (mFor mi bn s ρ S) B := Wp.forV (h.mono fun it S1 ⟨ds, e, h⟩ => ⟨ds, e, fun i ρ S => loopP bn s B (ds.drop i) ρ S, h, fun i d ρ S hd h => by
  have : ds.drop i = d :: ds.drop (i + 1) := by
    have hi := (List.getElem?_eq_some_iff.mp hd).1
    rw [List.drop_eq_getElem_cons hi]
    congr 1
    exact (List.getElem?_eq_some_iff.mp hd).2
  simp only [this] at h
  exact h, fun ρ S h => by
  simp only [List.drop_length] at h
  exact h⟩)
theorem Wp.try_ok (h : Wp (mb ρ S) B) : Wp (mTryAs is i mb ms ρ S) B := by
  obtain ⟨p, S1, e, q⟩ := h.get
  unfold mTryAs
  rw [e]
  exact q
theorem Wp.try_ex {c : Exn} {ρ1 : Ro} {S1 : So} (e : mb ρ S = .ex c ρ1 S1) (hi : is c.cls = some true) (hl : i < ρ1.length) (h : Wp (ms c (ρ1.set i none) S1) fun p S2 => B (p.1, p.2.set i none) S2) : Wp (mTryAs is i mb ms ρ S) B := by
  unfold mTryAs
  rw [e]
  simp only [hi, if_pos hl]
  obtain ⟨p, S2, e2, q⟩ := h.get
  rw [e2]
  exact q
theorem app_last {l : List D} {y : D} (hl : l.length < lim) : appendD (.ref S.length) [y] (S ++ [.lst l]) = .ok .non (S ++ [.lst (l ++ [y])]) := by
  have h : (S ++ [O.lst l])[S.length]? = some (.lst l) := by simp
  rw [app_lst h hl]
  congr 1
  rw [List.set_append_right _ _ (Nat.le_refl _)]
  simp
theorem seq_last {l : List D} : seqO (S ++ [.lst l]) (.ref S.length) = some l := by
  have h : (S ++ [O.lst l])[S.length]? = some (.lst l) := by simp
  unfold seqO vw
  simp only [h]
theorem ty_last {l : List D} : isLst (S ++ [.lst l]) (.ref S.length) = true := by
  have h : (S ++ [O.lst l])[S.length]? = some (.lst l) := by simp
  unfold isLst
  simp only [h]
theorem join_of {a y : Str} {d : D} {ds : List D} {ys : List Str} (h1 : seqO S d = some ds) (h2 : strsO ds = some ys) (hl : (ys.map (·.length)).sum + ys.length * a.length ≤ lim) (hy : Str.join a ys = y) : joinD (.str a) [d] S = .ok (.str y) S := by
  unfold joinD
  simp only [h1, h2, if_pos hl]
  rw [← hy]
  have := eq_of_beq (PyProof.Rows.join_plain_closes a ys)
  rw [this]
theorem add_str {x y : Str} (h : x.length + y.length ≤ lim) : addD (.str x) (.str y) S = .ok (.str (x ++ y)) S := by
  unfold addD
  simp only [if_pos h]
theorem fmt_str {x : Str} (h : x.length ≤ lim) : fmtD (.str x) S = .ok (.str x) S := by
  unfold fmtD
  simp only [if_pos h]
theorem fmt_int {n : Int} (h : n.natAbs.log2 < 1920) : fmtD (.int n) S = .ok (.str (toString n)) S := by
  unfold fmtD
  simp only [if_pos h]
theorem str_int {n : Int} (h : n.natAbs.log2 < 1920) : strD [.int n] S = .ok (.str (toString n)) S := by
  unfold strD
  simp only [if_pos h]
theorem log_of {n : Int} (h0 : 0 ≤ n) (h : n < 10 ^ 10) : n.natAbs.log2 < 1920 := by
  have h1 : n.natAbs < 2 ^ 1920 := Nat.lt_of_lt_of_le (by omega : n.natAbs < 10 ^ 10) (Nat.le_of_lt (by decide +kernel))
  by_cases hz : n.natAbs = 0
  · rw [hz]; decide
  · exact (Nat.log2_lt hz).mpr h1
end
end Mi
local macro_rules | `(tactic| walk_at "ml") => `(tactic| first
  | ((with_reducible refine' Mi.Wp.op2 (f := Mi.eqD) ?mi_e ?_); case mi_e => rfl)
  | ((with_reducible refine' Mi.Wp.op2 (f := Mi.neD) ?mi_e ?_); case mi_e => rfl)
  | ((with_reducible refine' Mi.Wp.op2 (f := Mi.addD) ?mi_e ?_); case mi_e => rfl)
  | ((with_reducible refine' Mi.Wp.op2 (f := Mi.subD) ?mi_e ?_); case mi_e => rfl)
  | ((with_reducible refine' Mi.Wp.op2 (f := Mi.ltD) ?mi_e ?_); case mi_e => rfl)
  | ((with_reducible refine' Mi.Wp.op2 (f := Mi.leD) ?mi_e ?_); case mi_e => rfl)
  | ((with_reducible refine' Mi.Wp.op2 (f := Mi.gtD) ?mi_e ?_); case mi_e => rfl)
  | ((with_reducible refine' Mi.Wp.op2 (f := Mi.geD) ?mi_e ?_); case mi_e => rfl)
  | ((with_reducible refine' Mi.Wp.op2 (f := Mi.powD) ?mi_e ?_); case mi_e => rfl)
  | ((with_reducible refine' Mi.Wp.op2 (f := Mi.mulD) ?mi_e ?_); case mi_e => rfl)
  | ((with_reducible refine' Mi.Wp.op2 (f := Mi.fdivD) ?mi_e ?_); case mi_e => rfl)
  | ((with_reducible refine' Mi.Wp.op2 (f := Mi.modD) ?mi_e ?_); case mi_e => rfl)
  | ((with_reducible refine' Mi.Wp.op2 (f := Mi.inD) ?mi_e ?_); case mi_e => rfl)
  | ((with_reducible refine' Mi.Wp.op2 (f := Mi.notInD) ?mi_e ?_); case mi_e => rfl)
  | ((with_reducible refine' Mi.Wp.op2 (f := Mi.ixD) ?mi_e ?_); case mi_e => first | rfl | exact Mi.ix_lst (by assumption) (by rfl) | exact Mi.ix_t0 | exact Mi.ix_t1 | exact Mi.ix_t2 | exact Mi.ix_t3)
  | ((with_reducible refine' Mi.Wp.op1 (f := Mi.fmtD) ?mi_e ?_); case mi_e => rfl)
  | ((with_reducible refine' Mi.Wp.op1 (f := Mi.negD) ?mi_e ?_); case mi_e => rfl)
  | ((with_reducible refine' Mi.Wp.op1 (f := Mi.isND) ?mi_e ?_); case mi_e => rfl)
  | ((with_reducible refine' Mi.Wp.op1 (f := Mi.notND) ?mi_e ?_); case mi_e => rfl)
  | ((with_reducible refine' Mi.Wp.opL (f := Mi.lenD) ?mi_e ?_); case mi_e => first | rfl | exact Mi.len_lst (by assumption))
  | ((with_reducible refine' Mi.Wp.opL (f := Mi.intD) ?mi_e ?_); case mi_e => rfl)
  | ((with_reducible refine' Mi.Wp.opL (f := Mi.strD) ?mi_e ?_); case mi_e => rfl)
  | ((with_reducible refine' Mi.Wp.bt ?mi_e ?_); case mi_e => rfl)
  | ((with_reducible refine' Mi.Wp.bf ?mi_e ?_); case mi_e => rfl)
  | ((with_reducible refine' Mi.Wp.var ?mi_e ?_); case mi_e => rfl)
  | ((with_reducible refine' Exists.intro ?_ (And.intro ?mi_e ?_)); case mi_e => rfl)
  | ((with_reducible refine' And.intro ?mi_e ?_); case mi_e => first | rfl | exact Nat.le_of_ble_eq_true rfl)
  | ((with_reducible refine' Mi.Wp.isE ?mi_e ?_); case mi_e => rfl)
  | ((with_reducible refine' Mi.Wp.xf ?mi_e ?_); case mi_e => rfl))
local macro_rules | `(tactic| walk_at "mi") => `(tactic| with_reducible first
  | refine Mi.Wp.fn ?_ | refine Mi.Wp.seq ?_ | refine Mi.Wp.nx ?_ | refine Mi.Wp.rt ?_ | refine Mi.Wp.if_ ?_ | refine Mi.Wp.c ?_ | refine Mi.Wp.m2 ?_ | refine Mi.Wp.m1 ?_ | refine Mi.Wp.b ?_ | refine Mi.Wp.asB ?_ | refine Mi.Wp.and ?_ | refine Mi.Wp.or ?_ | refine Mi.Wp.not ?_ | refine Mi.Wp.andV ?_ | refine Mi.Wp.orV ?_ | refine Mi.Wp.notV ?_ | refine Mi.Wp.iteE ?_ | refine Mi.Wp.chain ?_ | refine Mi.Wp.nilA ?_ | refine Mi.Wp.consA ?_ | refine Mi.Wp.tup ?_ | refine Mi.Wp.lst ?_ | refine Mi.Wp.dict0 ?_ | refine Mi.Wp.noPart ?_ | refine Mi.Wp.part ?_ | refine Mi.Wp.sl ?_ | refine Mi.Wp.callB ?_ | refine Mi.Wp.meth ?_ | refine Mi.Wp.is ?_ | refine Mi.Wp.joinNil ?_ | refine Mi.Wp.joinCons ?_ | refine Mi.Wp.join ?_ | refine Mi.Wp.call ?_ | refine Mi.Wp.skip ?_ | refine Mi.Wp.brk ?_ | refine Mi.Wp.cnt ?_ | refine Mi.Wp.drop ?_ | refine Mi.Wp.ret ?_ | refine Mi.Wp.retN ?_ | refine Mi.Wp.asgN ?_ | refine Mi.Wp.store ?_ | refine Mi.Wp.itV ?_ | refine Mi.Wp.rng1 ?_ | refine Mi.Wp.yes ?_ | refine Mi.fnK.rt ?_ | refine Mi.fnK.nx ?_ | refine Mi.turnK.nx ?_ | refine Mi.turnK.rt ?_ | refine Mi.turnK.bk ?_ | refine Mi.turnK.ct ?_)
local macro_rules | `(tactic| walk_at "go") => `(tactic| repeat first | walk_at "mi" | walk_at "ml")
namespace Mi
open PySem
def bMix : MS := mSeq (mAsg (m2 modD (m2 mulD (m2 addD (m2 addD (mVar 0) (m2 mulD (mC (.int 7919)) (mVar 1))) (mC (.int 1))) (mC (.int 48271))) (mC (.int 2147483647))) (bN 0)) (mSeq (mAsg (m2 modD (m2 mulD (mVar 0) (m2 addD (m2 fdivD (mVar 0) (mC (.int 1009))) (mC (.int 69621)))) (mC (.int 2147483647))) (bN 0)) (mRet (m2 modD (m2 mulD (mVar 0) (m2 addD (m2 fdivD (mVar 0) (mC (.int 2003))) (mC (.int 40692)))) (mC (.int 2147483399)))))
def dMix : MF := mFn 2 2 bMix
def bDraw : MS := mSeq (mStore setD (mVar 0) (mC (.int 3)) (m2 addD (m2 ixD (mVar 0) (mC (.int 3))) (mC (.int 1)))) (mSeq (mIf (mAnd (mB (m2 leD (m2 ixD (mVar 0) (mC (.int 2))) (mC (.int 1)))) (mB (m2 ltD (m2 ixD (mVar 0) (mC (.int 1))) (mCallB lenD (mConsA (m2 ixD (mVar 0) (mC (.int 0))) (mNilA)))))) (mSeq (mAsg (m2 ixD (m2 ixD (mVar 0) (mC (.int 0))) (m2 ixD (mVar 0) (mC (.int 1)))) (bN 2)) (mSeq (mStore setD (mVar 0) (mC (.int 1)) (m2 addD (m2 ixD (mVar 0) (mC (.int 1))) (mC (.int 1)))) (mSeq (mStore setD (mVar 0) (mC (.int 4)) (m2 modD (mCallB intD (mConsA (m2 addD (m2 mulD (m2 ixD (mVar 0) (mC (.int 4))) (mC (.int 31))) (mVar 2)) (mNilA))) (mC (.int 2147483647)))) (mSeq (mStore setD (mVar 0) (mC (.int 2)) (mC (.int 0))) (mIf (mB (m2 geD (mVar 2) (m2 powD (mC (.int 10)) (mC (.int 18))))) (mStore setD (mVar 0) (mC (.int 2)) (mVar 2)) (mSkip)))))) (mSkip)) (mSeq (mIf (mB (m2 gtD (m2 ixD (mVar 0) (mC (.int 2))) (mC (.int 1)))) (mSeq (mAsg (m2 modD (mCallB intD (mConsA (m2 ixD (mVar 0) (mC (.int 2))) (mNilA))) (mVar 1)) (bN 3)) (mSeq (mStore setD (mVar 0) (mC (.int 2)) (m2 fdivD (m2 ixD (mVar 0) (mC (.int 2))) (mVar 1))) (mRet (mVar 3)))) (mSkip)) (mRet (m2 modD (m2 fdivD (mCall dMix 2 [] (mConsA (m2 ixD (mVar 0) (mC (.int 4))) (mConsA (m2 ixD (mVar 0) (mC (.int 3))) (mNilA)))) (mC (.int 16))) (mVar 1)))))
def dDraw : MF := mFn 2 4 bDraw
def bSrc : MS := mRet (mLst (mConsA (mCallB listD (mConsA (mSl (mVar 0) (mNoPart) (mPart (mC (.int 63)))) (mNilA))) (mConsA (mC (.int 0)) (mConsA (mC (.int 0)) (mConsA (mC (.int 0)) (mConsA (mC (.int 0)) (mNilA)))))))
def dSrc : MF := mFn 1 1 bSrc
theorem mul_r {S : So} {i j : Int} (h : -(2 ^ 64) < j ∧ j < 2 ^ 64) : mulD (.int i) (.int j) S = .ok (.int (i * j)) S := by
  unfold mulD
  simp only [if_pos (Or.inr h : (-(2 ^ 64) < i ∧ i < 2 ^ 64) ∨ (-(2 ^ 64) < j ∧ j < 2 ^ 64))]
theorem mul_l {S : So} {i j : Int} (h : -(2 ^ 64) < i ∧ i < 2 ^ 64) : mulD (.int i) (.int j) S = .ok (.int (i * j)) S := by
  unfold mulD
  simp only [if_pos (Or.inl h : (-(2 ^ 64) < i ∧ i < 2 ^ 64) ∨ (-(2 ^ 64) < j ∧ j < 2 ^ 64))]
theorem mod_ok {S : So} {i j : Int} (h : j ≠ 0) : modD (.int i) (.int j) S = .ok (.int (i.fmod j)) S := by
  unfold modD intOp
  simp only [if_pos h]
theorem fdiv_ok {S : So} {i j : Int} (h : j ≠ 0) (h2 : j.natAbs < 1073741824) : fdivD (.int i) (.int j) S = .ok (.int (i.fdiv j)) S := by
  unfold fdivD intOp
  simp only [if_pos (And.intro h h2 : j ≠ 0 ∧ j.natAbs < 1073741824)]
theorem fm_b (a : Int) : -(2 ^ 64) < a.fmod 2147483647 ∧ a.fmod 2147483647 < 2 ^ 64 := by
  have b1 : 0 ≤ a.fmod 2147483647 := Int.fmod_nonneg_of_pos _ (by decide)
  have b2 : a.fmod 2147483647 < 2147483647 := Int.fmod_lt_of_pos _ (by decide)
  omega
theorem mix_eq {n k : Int} {S : So} : Wp (dMix [.int n, .int k] S) (fun r S' => S' = S ∧ ∃ z, r = .int z) := by
  unfold dMix bMix
  walk_at "go"
  refine Wp.op2 (mul_r (by decide)) ?_
  walk_at "go"
  refine Wp.op2 (mul_l (fm_b _)) ?_
  walk_at "go"
  refine Wp.op2 (mul_l (fm_b _)) ?_
  walk_at "go"
  exact ⟨_, rfl⟩
/-- the source at s, over the cells at t -/
structure Src (s t : Nat) (cs : List Int) (i c d e : Int) (S : So) : Prop where
  at_ : S[s]? = some (.lst [.ref t, .int i, .int c, .int d, .int e])
  cl : S[t]? = some (.lst (cs.map D.int))
  ne : s ≠ t
  i0 : 0 ≤ i
  few : cs.length ≤ 63
/-- all but the source stays -/
def Keep (s : Nat) (S S' : So) : Prop := S'.length = S.length ∧ ∀ n, n ≠ s → S'[n]? = S[n]?
theorem Keep.refl {s : Nat} {S : So} : Keep s S S := ⟨rfl, fun _ _ => rfl⟩
theorem Keep.trans {s : Nat} {S S1 S2 : So} (a : Keep s S S1) (b : Keep s S1 S2) : Keep s S S2 := ⟨b.1.trans a.1, fun n h => (b.2 n h).trans (a.2 n h)⟩
section
variable {s t : Nat} {cs : List Int} {i c d e x : Int} {S : So}
theorem Src.lt (h : Src s t cs i c d e S) : s < S.length := (List.getElem?_eq_some_iff.mp h.at_).1
theorem src_set (h : Src s t cs i c d e S) {o : O} : (S.set s o)[s]? = some o ∧ (S.set s o)[t]? = S[t]? ∧ Keep s S (S.set s o) :=
  ⟨List.getElem?_set_self h.lt, List.getElem?_set_ne h.ne, List.length_set, fun n hn => List.getElem?_set_ne (Ne.symm hn)⟩
theorem src1 (h : Src s t cs i c d e S) (hx : 0 ≤ x) : ∃ S', setD (.ref s) (.int 1) (.int x) S = .ok () S' ∧ Src s t cs x c d e S' ∧ Keep s S S' := by
  obtain ⟨a, b, k⟩ := src_set h (o := .lst [.ref t, .int x, .int c, .int d, .int e])
  exact ⟨_, set_lst h.at_ (j := 1) rfl, ⟨a, b.trans h.cl, h.ne, hx, h.few⟩, k⟩
theorem src2 (h : Src s t cs i c d e S) : ∃ S', setD (.ref s) (.int 2) (.int x) S = .ok () S' ∧ Src s t cs i x d e S' ∧ Keep s S S' := by
  obtain ⟨a, b, k⟩ := src_set h (o := .lst [.ref t, .int i, .int x, .int d, .int e])
  exact ⟨_, set_lst h.at_ (j := 2) rfl, ⟨a, b.trans h.cl, h.ne, h.i0, h.few⟩, k⟩
theorem src3 (h : Src s t cs i c d e S) : ∃ S', setD (.ref s) (.int 3) (.int x) S = .ok () S' ∧ Src s t cs i c x e S' ∧ Keep s S S' := by
  obtain ⟨a, b, k⟩ := src_set h (o := .lst [.ref t, .int i, .int c, .int x, .int e])
  exact ⟨_, set_lst h.at_ (j := 3) rfl, ⟨a, b.trans h.cl, h.ne, h.i0, h.few⟩, k⟩
theorem src4 (h : Src s t cs i c d e S) : ∃ S', setD (.ref s) (.int 4) (.int x) S = .ok () S' ∧ Src s t cs i c d x S' ∧ Keep s S S' := by
  obtain ⟨a, b, k⟩ := src_set h (o := .lst [.ref t, .int i, .int c, .int d, .int x])
  exact ⟨_, set_lst h.at_ (j := 4) rfl, ⟨a, b.trans h.cl, h.ne, h.i0, h.few⟩, k⟩
/-- the source is whole -/
def St (s t : Nat) (S : So) : Prop := ∃ cs i c d e, Src s t cs i c d e S
/-- what a draw of one of many gives -/
def Drawn (s t : Nat) (many : Int) (S : So) (r : D) (S' : So) : Prop := St s t S' ∧ Keep s S S' ∧ ∃ k : Int, r = .int k ∧ 0 ≤ k ∧ k < many
theorem fmod_in {a many : Int} (h : 1 ≤ many) : 0 ≤ a.fmod many ∧ a.fmod many < many := ⟨Int.fmod_nonneg_of_pos _ (by omega), Int.fmod_lt_of_pos _ (by omega)⟩
theorem draw_end {many : Int} {S0 : So} (h : Src s t cs i c d e S) (k0 : Keep s S0 S) (h1 : 1 ≤ many) (h2 : many < 1073741824) {x y : Option D} {s2 : MS}
    (hs2 : s2 = mSeq (mIf (mB (m2 gtD (m2 ixD (mVar 0) (mC (.int 2))) (mC (.int 1)))) (mSeq (mAsg (m2 modD (mCallB intD (mConsA (m2 ixD (mVar 0) (mC (.int 2))) (mNilA))) (mVar 1)) (bN 3)) (mSeq (mStore setD (mVar 0) (mC (.int 2)) (m2 fdivD (m2 ixD (mVar 0) (mC (.int 2))) (mVar 1))) (mRet (mVar 3)))) (mSkip)) (mRet (m2 modD (m2 fdivD (mCall dMix 2 [] (mConsA (m2 ixD (mVar 0) (mC (.int 4))) (mConsA (m2 ixD (mVar 0) (mC (.int 3))) (mNilA)))) (mC (.int 16))) (mVar 1)))) :
    Wp (s2 [some (.ref s), some (.int many), x, y] S) (fnK (Drawn s t many S0)) := by
  subst hs2
  have hs := h.at_
  have hne : many ≠ 0 := by omega
  have hab : many.natAbs < 1073741824 := by omega
  walk_at "go"
  refine ⟨fun hc => ?_, fun hc => ?_⟩
  · walk_at "go"
    refine Wp.op2 (mod_ok hne) ?_
    walk_at "go"
    refine Wp.op2 (fdiv_ok hne hab) ?_
    walk_at "go"
    obtain ⟨S', e1, h', k'⟩ := src2 (x := c.fdiv many) h
    refine Wp.ok e1 ?_
    walk_at "go"
    exact ⟨⟨_, _, _, _, _, h'⟩, k0.trans k', _, rfl, fmod_in h1⟩
  · walk_at "go"
    refine mix_eq.mono ?_
    rintro r S' ⟨rfl, z, rfl⟩
    walk_at "go"
    refine Wp.op2 (mod_ok hne) ?_
    walk_at "go"
    exact ⟨⟨_, _, _, _, _, h⟩, k0, _, rfl, fmod_in h1⟩
theorem cell_at (h0 : 0 ≤ i) (h1 : i < ((cs.map D.int).length : Nat)) : ∃ z : Int, L2.atI (cs.map D.int) i = some (.int z) := by
  obtain ⟨j, rfl⟩ := Int.eq_ofNat_of_zero_le h0
  have hj : j < cs.length := by
    rw [List.length_map] at h1
    omega
  refine ⟨cs[j], ?_⟩
  unfold L2.atI L2.ixN
  rw [if_pos (Int.natCast_nonneg j), if_pos h1]
  simp [hj]
theorem draw_eq {many : Int} (h : St s t S) (h1 : 1 ≤ many) (h2 : many < 1073741824) : Wp (dDraw [.ref s, .int many] S) (Drawn s t many S) := by
  obtain ⟨cs, i, c, d, e, h⟩ := h
  unfold dDraw bDraw
  have hs := h.at_
  walk_at "go"
  obtain ⟨S1, e1, h', k1⟩ := src3 (x := d + 1) h
  refine Wp.ok e1 ?_
  clear e1 hs
  have hs := h'.at_
  have ht := h'.cl
  walk_at "go"
  refine ⟨fun hc => ?_, fun hc => ?_⟩
  · walk_at "go"
    refine ⟨fun hc2 => ?_, fun hc2 => ?_⟩
    · walk_at "go"
      obtain ⟨z, hz⟩ := cell_at (cs := cs) h'.i0 (of_decide_eq_true hc2)
      refine Wp.op2 (ix_lst ht hz) ?_
      walk_at "go"
      obtain ⟨S2, e2, g2, k2⟩ := src1 (x := i + 1) h' (by have := h'.i0; omega)
      refine Wp.ok e2 ?_
      clear e2 hs ht
      have hs := g2.at_
      walk_at "go"
      refine Wp.op2 (mul_r (by decide)) ?_
      walk_at "go"
      obtain ⟨S3, e3, g3, k3⟩ := src4 (x := (e * 31 + z).fmod 2147483647) g2
      refine Wp.ok e3 ?_
      clear e3 hs
      have hs := g3.at_
      walk_at "go"
      obtain ⟨S4, e4, g4, k4⟩ := src2 (x := 0) g3
      refine Wp.ok e4 ?_
      clear e4 hs
      have hs := g4.at_
      have kk := k1.trans (k2.trans (k3.trans k4))
      walk_at "go"
      refine ⟨fun hc3 => ?_, fun hc3 => ?_⟩
      · walk_at "go"
        obtain ⟨S5, e5, g5, k5⟩ := src2 (x := z) g4
        refine Wp.ok e5 ?_
        refine Wp.nx ?_
        exact draw_end g5 (kk.trans k5) h1 h2 rfl
      · refine Wp.skip ?_
        refine Wp.nx ?_
        exact draw_end g4 kk h1 h2 rfl
    · refine Wp.skip ?_
      refine Wp.nx ?_
      exact draw_end h' k1 h1 h2 rfl
  · refine Wp.bf (by rfl) ?_
    refine Wp.skip ?_
    refine Wp.nx ?_
    exact draw_end h' k1 h1 h2 rfl
end
/-- what stood stays, but the source -/
def Grw (s : Nat) (S S' : So) : Prop := S.length ≤ S'.length ∧ ∀ n, n < S.length → n ≠ s → S'[n]? = S[n]?
theorem Grw.refl {s : Nat} {S : So} : Grw s S S := ⟨Nat.le_refl _, fun _ _ _ => rfl⟩
theorem Grw.trans {s : Nat} {S S1 S2 : So} (a : Grw s S S1) (b : Grw s S1 S2) : Grw s S S2 := ⟨Nat.le_trans a.1 b.1, fun n h1 h2 => (b.2 n (Nat.lt_of_lt_of_le h1 a.1) h2).trans (a.2 n h1 h2)⟩
theorem Grw.keep {s : Nat} {S S' : So} (k : Keep s S S') : Grw s S S' := ⟨Nat.le_of_eq k.1.symm, fun n _ h => k.2 n h⟩
theorem Grw.app {s : Nat} {S T : So} : Grw s S (S ++ T) := ⟨by rw [List.length_append]; omega, fun n h _ => List.getElem?_append_left h⟩
theorem Grw.set {s n : Nat} {S S1 : So} {o : O} (k : Grw s S S1) (h : S.length ≤ n) : Grw s S (S1.set n o) := ⟨by rw [List.length_set]; exact k.1, fun m h1 h2 => by
  rw [List.getElem?_set_ne (by omega)]
  exact k.2 m h1 h2⟩
theorem St.app {s t : Nat} {S T : So} (h : St s t S) : St s t (S ++ T) := by
  obtain ⟨cs, i, c, d, e, h⟩ := h
  have l1 := (List.getElem?_eq_some_iff.mp h.at_).1
  have l2 := (List.getElem?_eq_some_iff.mp h.cl).1
  exact ⟨cs, i, c, d, e, ⟨(List.getElem?_append_left l1).trans h.at_, (List.getElem?_append_left l2).trans h.cl, h.ne, h.i0, h.few⟩⟩
theorem St.lt {s t : Nat} {S : So} (h : St s t S) : s < S.length ∧ t < S.length := by
  obtain ⟨cs, i, c, d, e, h⟩ := h
  exact ⟨(List.getElem?_eq_some_iff.mp h.at_).1, (List.getElem?_eq_some_iff.mp h.cl).1⟩
theorem St.set {s t n : Nat} {S : So} {o : O} (h : St s t S) (h1 : n ≠ s) (h2 : n ≠ t) : St s t (S.set n o) := by
  obtain ⟨cs, i, c, d, e, h⟩ := h
  exact ⟨cs, i, c, d, e, ⟨(List.getElem?_set_ne h1).trans h.at_, (List.getElem?_set_ne h2).trans h.cl, h.ne, h.i0, h.few⟩⟩
/-- a promise of what draws -/
def Pr (s t : Nat) (S : So) (P : D → So → Prop) : D → So → Prop := fun r S' => St s t S' ∧ Grw s S S' ∧ P r S'
theorem last_at {S : So} {o : O} : (S ++ [o])[S.length]? = some o := by simp
theorem src_eq {ns : List Int} (h : ns.length ≤ 63) : Wp (dSrc [.frl (ns.map D.int)] []) (fun r S' => r = .ref 2 ∧ St 2 1 S' ∧ S'.length = 3) := by
  unfold dSrc bSrc
  walk_at "go"
  refine Wp.ok rfl ?_
  walk_at "go"
  refine Wp.ok rfl ?_
  walk_at "go"
  have hc : cutD (ns.map D.int) none (some 63) = ns.map D.int := by
    refine cut_all ⟨rfl, ?_⟩
    rw [List.length_map]
    show (if (63 : Int) < 0 then ((63 : Int) + (ns.length : Int)).toNat else min (63 : Int).toNat ns.length) = ns.length
    rw [if_neg (by decide)]
    show min 63 ns.length = ns.length
    omega
  exact ⟨⟨ns, 0, 0, 0, 0, ⟨rfl, by rw [hc]; rfl, by decide, by decide, h⟩⟩, rfl⟩
end Mi
namespace Mkk85
open PySem Mi
def ctch_BadEvent : Is := fun n => if n = "BadEvent" then some true else none
def isx_BadMove : Is := fun n => if n = "BadEvent" then some false else none
def isx_BadText : Is := fun n => if n = "BadEvent" then some false else none
def isx_StandError : Is := fun n => if n = "BadEvent" then some true else none
def isx_ValueError : Is := fun n => if n = "BadEvent" then some true else none
def b_is_name : MS := mSeq (mIf (mOr (mNot (mB (mIs .str (mVar 0)))) (mNot (mB (mChain leD leD (mC (.int 1)) (mCallB lenD (mConsA (mVar 0) (mNilA))) (mC (.int 8)))))) (mRet (mC (.bl false))) (mSkip)) (mSeq (mFor (mIt (mVar 0)) (bN 1) (mIf (mB (m2 notInD (mVar 1) (mC (.str "abcdefghijklmnopqrstuvwxyz")))) (mRet (mC (.bl false))) (mSkip))) (mRet (mC (.bl true))))
def m_is_name : MF := mFn 1 2 b_is_name
def b_is_count : MS := mRet (mAndV (mIs .int (mVar 0)) (mAndV (mNotV (mIs .bool (mVar 0))) (mChain leD leD (mC (.int 0)) (mVar 0) (mC (.int 999999)))))
def m_is_count : MF := mFn 1 1 b_is_count
def b_is_shown : MS := mSeq (mIf (mOr (mNot (mB (mIs .tup (mVar 0)))) (mOr (mB (m2 eqD (mCallB lenD (mConsA (mVar 0) (mNilA))) (mC (.int 0)))) (mNot (mB (mIs .str (m2 ixD (mVar 0) (mC (.int 0)))))))) (mRet (mC (.bl false))) (mSkip)) (mSeq (mIf (mB (m2 eqD (m2 ixD (mVar 0) (mC (.int 0))) (mC (.str "word")))) (mRet (mAndV (m2 eqD (mCallB lenD (mConsA (mVar 0) (mNilA))) (mC (.int 2))) (mCall m_is_name 1 [] (mConsA (m2 ixD (mVar 0) (mC (.int 1))) (mNilA))))) (mSkip)) (mSeq (mIf (mB (m2 eqD (m2 ixD (mVar 0) (mC (.int 0))) (mC (.str "other")))) (mRet (mAndV (m2 eqD (mCallB lenD (mConsA (mVar 0) (mNilA))) (mC (.int 2))) (mCall m_is_count 1 [] (mConsA (m2 ixD (mVar 0) (mC (.int 1))) (mNilA))))) (mSkip)) (mRet (mAndV (m2 inD (m2 ixD (mVar 0) (mC (.int 0))) (mTup (mConsA (mC (.str "none")) (mConsA (mC (.str "me")) (mNilA))))) (m2 eqD (mCallB lenD (mConsA (mVar 0) (mNilA))) (mC (.int 1)))))))
def m_is_shown : MF := mFn 1 1 b_is_shown
def b_is_event : MS := mSeq (mIf (mOr (mNot (mB (mIs .tup (mVar 0)))) (mOr (mB (m2 eqD (mCallB lenD (mConsA (mVar 0) (mNilA))) (mC (.int 0)))) (mNot (mB (mIs .str (m2 ixD (mVar 0) (mC (.int 0)))))))) (mRet (mC (.bl false))) (mSkip)) (mSeq (mIf (mB (m2 inD (m2 ixD (mVar 0) (mC (.int 0))) (mTup (mConsA (mC (.str "gives")) (mConsA (mC (.str "throws")) (mNilA)))))) (mRet (mAndV (m2 eqD (mCallB lenD (mConsA (mVar 0) (mNilA))) (mC (.int 2))) (mCall m_is_shown 1 [] (mConsA (m2 ixD (mVar 0) (mC (.int 1))) (mNilA))))) (mSkip)) (mSeq (mIf (mOr (mB (m2 notInD (m2 ixD (mVar 0) (mC (.int 0))) (mTup (mConsA (mC (.str "calls")) (mConsA (mC (.str "asks")) (mNilA)))))) (mB (m2 neD (mCallB lenD (mConsA (mVar 0) (mNilA))) (mC (.int 4))))) (mRet (mC (.bl false))) (mSkip)) (mSeq (mIf (mAnd (mB (m2 eqD (m2 ixD (mVar 0) (mC (.int 0))) (mC (.str "calls")))) (mNot (mB (mCall m_is_count 1 [] (mConsA (m2 ixD (mVar 0) (mC (.int 1))) (mNilA)))))) (mRet (mC (.bl false))) (mSkip)) (mSeq (mIf (mAnd (mB (m2 eqD (m2 ixD (mVar 0) (mC (.int 0))) (mC (.str "asks")))) (mNot (mB (mCall m_is_name 1 [] (mConsA (m2 ixD (mVar 0) (mC (.int 1))) (mNilA)))))) (mRet (mC (.bl false))) (mSkip)) (mRet (mAndV (mCall m_is_shown 1 [] (mConsA (m2 ixD (mVar 0) (mC (.int 2))) (mNilA))) (mCall m_is_shown 1 [] (mConsA (m2 ixD (mVar 0) (mC (.int 3))) (mNilA)))))))))
def m_is_event : MF := mFn 1 1 b_is_event
def b_shown_text : MS := mSeq (mIf (mB (m2 eqD (m2 ixD (mVar 0) (mC (.int 0))) (mC (.str "word")))) (mRet (m2 addD (mC (.str "'")) (m2 ixD (mVar 0) (mC (.int 1))))) (mSkip)) (mSeq (mIf (mB (m2 eqD (m2 ixD (mVar 0) (mC (.int 0))) (mC (.str "other")))) (mRet (mJoin [mC (.str "other "), m1 fmtD (m2 ixD (mVar 0) (mC (.int 1)))])) (mSkip)) (mRet (m2 ixD (mVar 0) (mC (.int 0)))))
def m_shown_text : MF := mFn 1 1 b_shown_text
def b_event_text : MS := mSeq (mIf (mNot (mB (mCall m_is_event 1 [] (mConsA (mVar 0) (mNilA))))) (mRaise "BadEvent" "event" (mVar 0)) (mSkip)) (mSeq (mIf (mB (m2 inD (m2 ixD (mVar 0) (mC (.int 0))) (mTup (mConsA (mC (.str "gives")) (mConsA (mC (.str "throws")) (mNilA)))))) (mRet (m2 addD (m2 addD (m2 ixD (mVar 0) (mC (.int 0))) (mC (.str " "))) (mCall m_shown_text 1 [] (mConsA (m2 ixD (mVar 0) (mC (.int 1))) (mNilA))))) (mSkip)) (mRet (mJoin [m1 fmtD (m2 ixD (mVar 0) (mC (.int 0))), mC (.str " "), m1 fmtD (m2 ixD (mVar 0) (mC (.int 1))), mC (.str " "), m1 fmtD (mCall m_shown_text 1 [] (mConsA (m2 ixD (mVar 0) (mC (.int 2))) (mNilA))), mC (.str " "), m1 fmtD (mCall m_shown_text 1 [] (mConsA (m2 ixD (mVar 0) (mC (.int 3))) (mNilA)))])))
def m_event_text : MF := mFn 1 1 b_event_text
def b_law_mix : MS := mSeq (mAsg (m2 modD (m2 mulD (m2 addD (m2 addD (mVar 0) (m2 mulD (mC (.int 7919)) (mVar 1))) (mC (.int 1))) (mC (.int 48271))) (mC (.int 2147483647))) (bN 0)) (mSeq (mAsg (m2 modD (m2 mulD (mVar 0) (m2 addD (m2 fdivD (mVar 0) (mC (.int 1009))) (mC (.int 69621)))) (mC (.int 2147483647))) (bN 0)) (mRet (m2 modD (m2 mulD (mVar 0) (m2 addD (m2 fdivD (mVar 0) (mC (.int 2003))) (mC (.int 40692)))) (mC (.int 2147483399)))))
def m_law_mix : MF := mFn 2 2 b_law_mix
def b_law_source : MS := mRet (mLst (mConsA (mCallB listD (mConsA (mSl (mVar 0) (mNoPart) (mPart (mC (.int 63)))) (mNilA))) (mConsA (mC (.int 0)) (mConsA (mC (.int 0)) (mConsA (mC (.int 0)) (mConsA (mC (.int 0)) (mNilA)))))))
def m_law_source : MF := mFn 1 1 b_law_source
def b_law_draw : MS := mSeq (mStore setD (mVar 0) (mC (.int 3)) (m2 addD (m2 ixD (mVar 0) (mC (.int 3))) (mC (.int 1)))) (mSeq (mIf (mAnd (mB (m2 leD (m2 ixD (mVar 0) (mC (.int 2))) (mC (.int 1)))) (mB (m2 ltD (m2 ixD (mVar 0) (mC (.int 1))) (mCallB lenD (mConsA (m2 ixD (mVar 0) (mC (.int 0))) (mNilA)))))) (mSeq (mAsg (m2 ixD (m2 ixD (mVar 0) (mC (.int 0))) (m2 ixD (mVar 0) (mC (.int 1)))) (bN 2)) (mSeq (mStore setD (mVar 0) (mC (.int 1)) (m2 addD (m2 ixD (mVar 0) (mC (.int 1))) (mC (.int 1)))) (mSeq (mStore setD (mVar 0) (mC (.int 4)) (m2 modD (mCallB intD (mConsA (m2 addD (m2 mulD (m2 ixD (mVar 0) (mC (.int 4))) (mC (.int 31))) (mVar 2)) (mNilA))) (mC (.int 2147483647)))) (mSeq (mStore setD (mVar 0) (mC (.int 2)) (mC (.int 0))) (mIf (mB (m2 geD (mVar 2) (m2 powD (mC (.int 10)) (mC (.int 18))))) (mStore setD (mVar 0) (mC (.int 2)) (mVar 2)) (mSkip)))))) (mSkip)) (mSeq (mIf (mB (m2 gtD (m2 ixD (mVar 0) (mC (.int 2))) (mC (.int 1)))) (mSeq (mAsg (m2 modD (mCallB intD (mConsA (m2 ixD (mVar 0) (mC (.int 2))) (mNilA))) (mVar 1)) (bN 3)) (mSeq (mStore setD (mVar 0) (mC (.int 2)) (m2 fdivD (m2 ixD (mVar 0) (mC (.int 2))) (mVar 1))) (mRet (mVar 3)))) (mSkip)) (mRet (m2 modD (m2 fdivD (mCall m_law_mix 2 [] (mConsA (m2 ixD (mVar 0) (mC (.int 4))) (mConsA (m2 ixD (mVar 0) (mC (.int 3))) (mNilA)))) (mC (.int 16))) (mVar 1)))))
def m_law_draw : MF := mFn 2 4 b_law_draw
def b_law_names : MS := mSeq (mAsg (mC (.str "abcdefghijklmnopqrstuvwxyz")) (bN 2)) (mSeq (mAsg (m2 eqD (mCall m_law_draw 2 [] (mConsA (mVar 0) (mConsA (mC (.int 2)) (mNilA)))) (mC (.int 0))) (bN 3)) (mSeq (mAsg (mCall m_law_draw 2 [] (mConsA (mVar 0) (mConsA (mC (.int 26)) (mNilA)))) (bN 4)) (mSeq (mAsg (mLst (mNilA)) (bN 5)) (mSeq (mFor (mRng1 (mConsA (mVar 1) (mNilA))) (bN 6) (mSeq (mAsg (mMeth isStr joinD (mC (.str "")) (mConsA (mLc (mRng1 (mConsA (mCall m_law_draw 2 [] (mConsA (mVar 0) (mConsA (mC (.int 8)) (mNilA)))) (mNilA))) (bN 9) (mYes) (m2 ixD (mVar 2) (mCall m_law_draw 2 [] (mConsA (mVar 0) (mConsA (mC (.int 26)) (mNilA))))) [9]) (mNilA))) (bN 7)) (mSeq (mAsg (m2 ixD (mVar 2) (m2 modD (m2 addD (mVar 4) (mVar 6)) (mC (.int 26)))) (bN 8)) (mIf (mB (mVar 3)) (mDrop (mMeth isLst appendD (mVar 5) (mConsA (m2 addD (mVar 8) (mVar 7)) (mNilA)))) (mDrop (mMeth isLst appendD (mVar 5) (mConsA (m2 addD (mVar 7) (mVar 8)) (mNilA)))))))) (mRet (mVar 5))))))
def m_law_names : MF := mFn 2 10 b_law_names
def b_law_number : MS := mSeq (mAsg (mCall m_law_draw 2 [] (mConsA (mVar 0) (mConsA (mC (.int 6)) (mNilA)))) (bN 1)) (mSeq (mIf (mB (m2 ltD (mVar 1) (mC (.int 2)))) (mRet (m2 ixD (mLst (mConsA (mC (.int 0)) (mConsA (mC (.int 999999)) (mNilA)))) (mVar 1))) (mSkip)) (mSeq (mIf (mB (m2 ltD (mVar 1) (mC (.int 4)))) (mRet (mCall m_law_draw 2 [] (mConsA (mVar 0) (mConsA (mC (.int 10)) (mNilA))))) (mSkip)) (mRet (mCall m_law_draw 2 [] (mConsA (mVar 0) (mConsA (m2 powD (mC (.int 10)) (mC (.int 6))) (mNilA)))))))
def m_law_number : MF := mFn 1 2 b_law_number
def b_law_value : MS := mSeq (mAsg (mCall m_law_draw 2 [] (mConsA (mVar 0) (mConsA (mC (.int 5)) (mNilA)))) (bN 1)) (mSeq (mIf (mB (m2 ltD (mVar 1) (mC (.int 2)))) (mRet (m2 ixD (mLst (mConsA (mTup (mConsA (mC (.str "none")) (mNilA))) (mConsA (mTup (mConsA (mC (.str "me")) (mNilA))) (mNilA)))) (mVar 1))) (mSkip)) (mSeq (mIf (mB (m2 eqD (mVar 1) (mC (.int 2)))) (mRet (mTup (mConsA (mC (.str "other")) (mConsA (mCall m_law_number 1 [] (mConsA (mVar 0) (mNilA))) (mNilA))))) (mSkip)) (mRet (mTup (mConsA (mC (.str "word")) (mConsA (m2 ixD (mCall m_law_names 2 [] (mConsA (mVar 0) (mConsA (mC (.int 1)) (mNilA)))) (mC (.int 0))) (mNilA)))))))
def m_law_value : MF := mFn 1 2 b_law_value
def b_law_event : MS := mSeq (mAsg (mCall m_law_draw 2 [] (mConsA (mVar 0) (mConsA (mC (.int 4)) (mNilA)))) (bN 1)) (mSeq (mAsg (mCall m_law_value 1 [] (mConsA (mVar 0) (mNilA))) (bN 2)) (mSeq (mIf (mB (m2 ltD (mVar 1) (mC (.int 2)))) (mRet (mTup (mConsA (m2 ixD (mLst (mConsA (mC (.str "gives")) (mConsA (mC (.str "throws")) (mNilA)))) (mVar 1)) (mConsA (mVar 2) (mNilA))))) (mSkip)) (mSeq (mIf (mB (m2 eqD (mVar 1) (mC (.int 2)))) (mRet (mTup (mConsA (mC (.str "calls")) (mConsA (mCall m_law_number 1 [] (mConsA (mVar 0) (mNilA))) (mConsA (mVar 2) (mConsA (mCall m_law_value 1 [] (mConsA (mVar 0) (mNilA))) (mNilA))))))) (mSkip)) (mRet (mTup (mConsA (mC (.str "asks")) (mConsA (m2 ixD (mCall m_law_names 2 [] (mConsA (mVar 0) (mConsA (mC (.int 1)) (mNilA)))) (mC (.int 0))) (mConsA (mVar 2) (mConsA (mCall m_law_value 1 [] (mConsA (mVar 0) (mNilA))) (mNilA))))))))))
def m_law_event : MF := mFn 1 3 b_law_event
def b_law_near : MS := mSeq (mAsg (mCall m_law_draw 2 [] (mConsA (mVar 0) (mConsA (mCallB lenD (mConsA (mVar 1) (mNilA))) (mNilA)))) (bN 2)) (mSeq (mIf (mOr (mB (m2 eqD (mVar 2) (mC (.int 0)))) (mOr (mAnd (mB (m2 eqD (m2 ixD (mVar 1) (mC (.int 0))) (mC (.str "calls")))) (mB (m2 eqD (mVar 2) (mC (.int 1))))) (mAnd (mB (m2 eqD (m2 ixD (mVar 1) (mC (.int 0))) (mC (.str "asks")))) (mB (m2 eqD (mVar 2) (mC (.int 1))))))) (mRet (mCall m_law_event 1 [] (mConsA (mVar 0) (mNilA)))) (mSkip)) (mRet (m2 addD (m2 addD (mSl (mVar 1) (mNoPart) (mPart (mVar 2))) (mTup (mConsA (mCall m_law_value 1 [] (mConsA (mVar 0) (mNilA))) (mNilA)))) (mSl (mVar 1) (mPart (m2 addD (mVar 2) (mC (.int 1)))) (mNoPart)))))
def m_law_near : MF := mFn 2 3 b_law_near
def b_law_due : MS := mSeq (mAsg (mLst (mConsA (m2 ixD (mVar 0) (mC (.int 0))) (mNilA))) (bN 1)) (mSeq (mFor (mIt (mSl (mVar 0) (mPart (mC (.int 1))) (mNoPart))) (bN 2) (mIf (mB (mIs .tup (mVar 2))) (mSeq (mIf (mB (m2 eqD (m2 ixD (mVar 2) (mC (.int 0))) (mC (.str "word")))) (mDrop (mMeth isLst appendD (mVar 1) (mConsA (m2 addD (mC (.str "'")) (m2 ixD (mVar 2) (mC (.int 1)))) (mNilA)))) (mDrop (mMeth isLst appendD (mVar 1) (mConsA (m2 ixD (mVar 2) (mC (.int 0))) (mNilA))))) (mIf (mB (m2 eqD (m2 ixD (mVar 2) (mC (.int 0))) (mC (.str "other")))) (mDrop (mMeth isLst appendD (mVar 1) (mConsA (mCallB strD (mConsA (m2 ixD (mVar 2) (mC (.int 1))) (mNilA))) (mNilA)))) (mSkip))) (mIf (mB (mIs .str (mVar 2))) (mDrop (mMeth isLst appendD (mVar 1) (mConsA (mVar 2) (mNilA)))) (mDrop (mMeth isLst appendD (mVar 1) (mConsA (mCallB strD (mConsA (mVar 2) (mNilA))) (mNilA))))))) (mRet (mMeth isStr joinD (mC (.str " ")) (mConsA (mVar 1) (mNilA)))))
def m_law_due : MF := mFn 1 3 b_law_due
def b_law_spoiled : MS := mSeq (mAsg (mCall m_law_draw 2 [] (mConsA (mVar 0) (mConsA (mC (.int 9)) (mNilA)))) (bN 2)) (mSeq (mAsg (m2 ixD (mLst (mConsA (m1 negD (mC (.int 1))) (mConsA (m2 powD (mC (.int 10)) (mC (.int 6))) (mConsA (mC (.bl true)) (mConsA (mC (.bl false)) (mConsA (mC (.str "1")) (mConsA (mC .non) (mConsA (m1 negD (m2 powD (mC (.int 10)) (mC (.int 40)))) (mConsA (mTup (mNilA)) (mNilA)))))))))) (mCall m_law_draw 2 [] (mConsA (mVar 0) (mConsA (mC (.int 8)) (mNilA))))) (bN 3)) (mSeq (mAsg (m2 ixD (mLst (mConsA (mC (.str "")) (mConsA (mC (.str "abcdefghi")) (mConsA (mC (.str "Ab")) (mConsA (mC (.str "a1")) (mConsA (mC (.str "a b")) (mConsA (mC (.int 7)) (mConsA (mC .non) (mConsA (mC (.bl true)) (mConsA (mTup (mConsA (mC (.str "a")) (mNilA))) (mNilA))))))))))) (mCall m_law_draw 2 [] (mConsA (mVar 0) (mConsA (mC (.int 9)) (mNilA))))) (bN 4)) (mSeq (mAsg (mLst (mConsA (mTup (mConsA (mC (.str "other")) (mConsA (mVar 3) (mNilA)))) (mConsA (mTup (mConsA (mC (.str "word")) (mConsA (mVar 4) (mNilA)))) (mConsA (mTup (mConsA (mC (.str "word")) (mNilA))) (mConsA (mTup (mConsA (mC (.str "other")) (mNilA))) (mConsA (mTup (mConsA (mC (.str "none")) (mConsA (mC (.int 0)) (mNilA)))) (mConsA (mTup (mConsA (mC (.str "me")) (mConsA (mTup (mNilA)) (mNilA)))) (mConsA (mTup (mConsA (mC (.str "able")) (mConsA (mC (.int 0)) (mNilA)))) (mConsA (mTup (mConsA (mC (.str "unable")) (mConsA (mC (.int 1)) (mNilA)))) (mConsA (mTup (mConsA (mC (.str "name")) (mConsA (mC (.str "x")) (mNilA)))) (mConsA (mLst (mConsA (mC (.str "none")) (mNilA))) (mConsA (mC (.str "none")) (mConsA (mC (.int 0)) (mConsA (mC .non) (mConsA (mTup (mNilA)) (mConsA (mTup (mConsA (mC (.str "field")) (mConsA (mC (.str "f")) (mNilA)))) (mConsA (mTup (mConsA (mC (.str "word")) (mConsA (mC (.str "a")) (mConsA (mC (.str "b")) (mNilA))))) (mConsA (mTup (mConsA (mTup (mConsA (mC (.str "none")) (mNilA))) (mNilA))) (mNilA))))))))))))))))))) (bN 5)) (mSeq (mAsg (m2 ixD (mVar 5) (mCall m_law_draw 2 [] (mConsA (mVar 0) (mConsA (mCallB lenD (mConsA (mVar 5) (mNilA))) (mNilA))))) (bN 6)) (mSeq (mAsg (m2 addD (mCall m_law_draw 2 [] (mConsA (mVar 0) (mConsA (m2 subD (mCallB lenD (mConsA (mVar 1) (mNilA))) (mC (.int 1))) (mNilA)))) (mC (.int 1))) (bN 7)) (mSeq (mIf (mB (m2 eqD (mVar 2) (mC (.int 0)))) (mRet (m2 ixD (mLst (mConsA (mCallB listD (mConsA (mVar 1) (mNilA))) (mConsA (mDict0) (mConsA (mC .non) (mConsA (mC (.str "gives 'a")) (mConsA (mC (.int 5)) (mConsA (mTup (mNilA)) (mConsA (mC (.bl true)) (mConsA (mTup (mConsA (mC (.str "gives")) (mNilA))) (mConsA (mTup (mConsA (mVar 1) (mNilA))) (mNilA))))))))))) (mCall m_law_draw 2 [] (mConsA (mVar 0) (mConsA (mC (.int 9)) (mNilA)))))) (mSkip)) (mSeq (mIf (mB (m2 eqD (mVar 2) (mC (.int 1)))) (mRet (m2 addD (mSl (mVar 1) (mNoPart) (mPart (mVar 7))) (mSl (mVar 1) (mPart (m2 addD (mVar 7) (mC (.int 1)))) (mNoPart)))) (mSkip)) (mSeq (mIf (mB (m2 eqD (mVar 2) (mC (.int 2)))) (mRet (m2 addD (mVar 1) (mTup (mConsA (mTup (mConsA (mC (.str "none")) (mNilA))) (mNilA))))) (mSkip)) (mSeq (mIf (mB (m2 eqD (mVar 2) (mC (.int 3)))) (mRet (m2 addD (mTup (mConsA (m2 ixD (mLst (mConsA (mC (.str "gave")) (mConsA (mC (.str "call")) (mConsA (mC (.str "Gives")) (mConsA (mC (.str "")) (mConsA (mC (.int 0)) (mConsA (mC .non) (mConsA (mTup (mConsA (mC (.str "gives")) (mNilA))) (mConsA (mC (.str "ask")) (mConsA (mC (.str "give")) (mNilA))))))))))) (mCall m_law_draw 2 [] (mConsA (mVar 0) (mConsA (mC (.int 9)) (mNilA))))) (mNilA))) (mSl (mVar 1) (mPart (mC (.int 1))) (mNoPart)))) (mSkip)) (mSeq (mIf (mAnd (mB (m2 ltD (mVar 2) (mC (.int 7)))) (mB (mIs .tup (m2 ixD (mVar 1) (mVar 7))))) (mRet (m2 addD (m2 addD (mSl (mVar 1) (mNoPart) (mPart (mVar 7))) (mTup (mConsA (mVar 6) (mNilA)))) (mSl (mVar 1) (mPart (m2 addD (mVar 7) (mC (.int 1)))) (mNoPart)))) (mSkip)) (mSeq (mIf (mAnd (mB (m2 ltD (mVar 2) (mC (.int 7)))) (mB (m2 eqD (m2 ixD (mVar 1) (mC (.int 0))) (mC (.str "calls"))))) (mRet (m2 addD (mTup (mConsA (mC (.str "calls")) (mConsA (mVar 3) (mNilA)))) (mSl (mVar 1) (mPart (mC (.int 2))) (mNoPart)))) (mSkip)) (mSeq (mIf (mB (m2 eqD (m2 ixD (mVar 1) (mC (.int 0))) (mC (.str "asks")))) (mRet (m2 addD (mTup (mConsA (mC (.str "asks")) (mConsA (mVar 4) (mNilA)))) (mSl (mVar 1) (mPart (mC (.int 2))) (mNoPart)))) (mSkip)) (mSeq (mIf (mB (m2 eqD (m2 ixD (mVar 1) (mC (.int 0))) (mC (.str "calls")))) (mRet (mTup (mConsA (mC (.str "calls")) (mConsA (mVar 3) (mConsA (mVar 6) (mConsA (m2 ixD (mVar 1) (mC (.int 3))) (mNilA))))))) (mSkip)) (mRet (mTup (mConsA (m2 ixD (mVar 1) (mC (.int 0))) (mConsA (mVar 6) (mNilA))))))))))))))))))
def m_law_spoiled : MF := mFn 2 8 b_law_spoiled
def b_law_told : MS := mSeq (mAsg (mLst (mConsA (mC (.str "told")) (mConsA (mC (.str "")) (mNilA)))) (bN 1)) (mSeq (mTryAs ctch_BadEvent 3 (mSeq (mAsg (mCall m_event_text 1 [] (mConsA (mVar 0) (mNilA))) (bN 2)) (mAsg (mLst (mConsA (mC (.str "told")) (mConsA (mVar 2) (mNilA)))) (bN 1))) (fun c => mSeq (mAsg (mAndV (mIsE isx_StandError c) (mIsE isx_ValueError c)) (bN 4)) (mAsg (mLst (mConsA (mC (.str "refused")) (mConsA (mXf "BadEvent" "event" c) (mConsA (mVar 4) (mConsA (mOrV (mIsE isx_BadMove c) (mIsE isx_BadText c)) (mNilA)))))) (bN 1)))) (mRet (mVar 1)))
def m_law_told : MF := mFn 1 5 b_law_told
def b_law : MS := mSeq (mAsg (mCall m_law_source 1 [] (mConsA (mVar 0) (mNilA))) (bN 1)) (mSeq (mAsg (m2 gtD (mCall m_law_draw 2 [] (mConsA (mVar 1) (mConsA (mC (.int 3)) (mNilA)))) (mC (.int 0))) (bN 2)) (mSeq (mAsg (mCall m_law_event 1 [] (mConsA (mVar 1) (mNilA))) (bN 3)) (mSeq (mAsg (mCall m_law_event 1 [] (mConsA (mVar 1) (mNilA))) (bN 4)) (mSeq (mIf (mB (mVar 2)) (mAsg (mCall m_law_near 2 [] (mConsA (mVar 1) (mConsA (mVar 3) (mNilA)))) (bN 4)) (mSkip)) (mSeq (mAsg (mCall m_law_told 1 [] (mConsA (mVar 3) (mNilA))) (bN 5)) (mSeq (mAsg (mCall m_law_told 1 [] (mConsA (mVar 4) (mNilA))) (bN 6)) (mSeq (mIf (mOr (mB (m2 neD (mVar 5) (mLst (mConsA (mC (.str "told")) (mConsA (mCall m_law_due 1 [] (mConsA (mVar 3) (mNilA))) (mNilA)))))) (mB (m2 neD (mVar 6) (mLst (mConsA (mC (.str "told")) (mConsA (mCall m_law_due 1 [] (mConsA (mVar 4) (mNilA))) (mNilA))))))) (mRet (mC (.bl false))) (mSkip)) (mSeq (mIf (mB (m2 neD (m2 eqD (m2 ixD (mVar 5) (mC (.int 1))) (m2 ixD (mVar 6) (mC (.int 1)))) (m2 eqD (mVar 3) (mVar 4)))) (mRet (mC (.bl false))) (mSkip)) (mSeq (mAsg (mCall m_law_spoiled 2 [] (mConsA (mVar 1) (mConsA (mVar 3) (mNilA)))) (bN 7)) (mSeq (mIf (mB (m2 neD (mCall m_law_told 1 [] (mConsA (mVar 7) (mNilA))) (mLst (mConsA (mC (.str "refused")) (mConsA (mVar 7) (mConsA (mC (.bl true)) (mConsA (mC (.bl false)) (mNilA)))))))) (mRet (mC (.bl false))) (mSkip)) (mRet (m2 eqD (mCall m_law_told 1 [] (mConsA (mVar 3) (mNilA))) (mVar 5)))))))))))))
def m_law : MF := mFn 1 8 b_law
end Mkk85
namespace Mkk85
open PySem PySem.Spec PyProof.Rows L2 Mi
def top (i : Nat) : Stmt := PySem.Challenge.pw_standsfor_k85_texts_of_events.main.body.getD i (.Pass ⟨0, 0, 0, 0⟩)
structure Ad where
  a_is_name : Addr
  d_is_name : FuncData
  a_is_count : Addr
  d_is_count : FuncData
  a_is_shown : Addr
  d_is_shown : FuncData
  a_is_event : Addr
  d_is_event : FuncData
  a_shown_text : Addr
  d_shown_text : FuncData
  a_event_text : Addr
  d_event_text : FuncData
  a_law_mix : Addr
  d_law_mix : FuncData
  a_law_source : Addr
  d_law_source : FuncData
  a_law_draw : Addr
  d_law_draw : FuncData
  a_law_names : Addr
  d_law_names : FuncData
  a_law_number : Addr
  d_law_number : FuncData
  a_law_value : Addr
  d_law_value : FuncData
  a_law_event : Addr
  d_law_event : FuncData
  a_law_near : Addr
  d_law_near : FuncData
  a_law_due : Addr
  d_law_due : FuncData
  a_law_spoiled : Addr
  d_law_spoiled : FuncData
  a_law_told : Addr
  d_law_told : FuncData
  a_law : Addr
  d_law : FuncData
  C_StandError : Addr
  C_BadMove : Addr
  C_BadEvent : Addr
  C_BadText : Addr
  i_BadEvent : Addr
  e_BadEvent : FuncData
def cl (A : Ad) : Str → Option Addr := fun n => if n = "BadEvent" then some A.C_BadEvent else none
structure Tx (P : Program) (K : PySem.W.Frag) (mg : Str → Option Value) (A : Ad) : Prop where
  f_is_name : Fun K "is_name" "is_name" (top 7) A.a_is_name A.d_is_name
  g_is_name : mg "is_name" = some (.ref A.a_is_name)
  b_is_name : Binds K A.d_is_name ["thing"] []
  f_is_count : Fun K "is_count" "is_count" (top 10) A.a_is_count A.d_is_count
  g_is_count : mg "is_count" = some (.ref A.a_is_count)
  b_is_count : Binds K A.d_is_count ["thing"] []
  f_is_shown : Fun K "is_shown" "is_shown" (top 11) A.a_is_shown A.d_is_shown
  g_is_shown : mg "is_shown" = some (.ref A.a_is_shown)
  b_is_shown : Binds K A.d_is_shown ["thing"] []
  f_is_event : Fun K "is_event" "is_event" (top 12) A.a_is_event A.d_is_event
  g_is_event : mg "is_event" = some (.ref A.a_is_event)
  b_is_event : Binds K A.d_is_event ["thing"] []
  f_shown_text : Fun K "shown_text" "shown_text" (top 14) A.a_shown_text A.d_shown_text
  g_shown_text : mg "shown_text" = some (.ref A.a_shown_text)
  b_shown_text : Binds K A.d_shown_text ["value"] []
  f_event_text : Fun K "event_text" "event_text" (top 15) A.a_event_text A.d_event_text
  g_event_text : mg "event_text" = some (.ref A.a_event_text)
  b_event_text : Binds K A.d_event_text ["event"] []
  f_law_mix : Fun K "_law_mix" "_law_mix" (top 17) A.a_law_mix A.d_law_mix
  g_law_mix : mg "_law_mix" = some (.ref A.a_law_mix)
  b_law_mix : Binds K A.d_law_mix ["_law_number_here", "_law_k"] []
  f_law_source : Fun K "_law_source" "_law_source" (top 18) A.a_law_source A.d_law_source
  g_law_source : mg "_law_source" = some (.ref A.a_law_source)
  b_law_source : Binds K A.d_law_source ["_law_script"] []
  f_law_draw : Fun K "_law_draw" "_law_draw" (top 19) A.a_law_draw A.d_law_draw
  g_law_draw : mg "_law_draw" = some (.ref A.a_law_draw)
  b_law_draw : Binds K A.d_law_draw ["_law_source_here", "_law_many"] []
  f_law_names : Fun K "_law_names" "_law_names" (top 22) A.a_law_names A.d_law_names
  g_law_names : mg "_law_names" = some (.ref A.a_law_names)
  b_law_names : Binds K A.d_law_names ["_law_source_here", "_law_many"] []
  f_law_number : Fun K "_law_number" "_law_number" (top 23) A.a_law_number A.d_law_number
  g_law_number : mg "_law_number" = some (.ref A.a_law_number)
  b_law_number : Binds K A.d_law_number ["_law_source_here"] []
  f_law_value : Fun K "_law_value" "_law_value" (top 24) A.a_law_value A.d_law_value
  g_law_value : mg "_law_value" = some (.ref A.a_law_value)
  b_law_value : Binds K A.d_law_value ["_law_source_here"] []
  f_law_event : Fun K "_law_event" "_law_event" (top 25) A.a_law_event A.d_law_event
  g_law_event : mg "_law_event" = some (.ref A.a_law_event)
  b_law_event : Binds K A.d_law_event ["_law_source_here"] []
  f_law_near : Fun K "_law_near" "_law_near" (top 26) A.a_law_near A.d_law_near
  g_law_near : mg "_law_near" = some (.ref A.a_law_near)
  b_law_near : Binds K A.d_law_near ["_law_source_here", "_law_event_here"] []
  f_law_due : Fun K "_law_due" "_law_due" (top 27) A.a_law_due A.d_law_due
  g_law_due : mg "_law_due" = some (.ref A.a_law_due)
  b_law_due : Binds K A.d_law_due ["_law_event_here"] []
  f_law_spoiled : Fun K "_law_spoiled" "_law_spoiled" (top 28) A.a_law_spoiled A.d_law_spoiled
  g_law_spoiled : mg "_law_spoiled" = some (.ref A.a_law_spoiled)
  b_law_spoiled : Binds K A.d_law_spoiled ["_law_source_here", "_law_event_here"] []
  f_law_told : Fun K "_law_told" "_law_told" (top 29) A.a_law_told A.d_law_told
  g_law_told : mg "_law_told" = some (.ref A.a_law_told)
  b_law_told : Binds K A.d_law_told ["_law_event_here"] []
  f_law : Fun K "law" "law" (top 30) A.a_law A.d_law
  g_law : mg "law" = some (.ref A.a_law)
  b_law : Binds K A.d_law ["_law_script"] []
  n_ValueError : mg "ValueError" = none
  n_bool : mg "bool" = none
  n_int : mg "int" = none
  n_isinstance : mg "isinstance" = none
  n_len : mg "len" = none
  n_list : mg "list" = none
  n_range : mg "range" = none
  n_str : mg "str" = none
  n_tuple : mg "tuple" = none
  c_LETTERS : ∃ u, mg "LETTERS" = some u ∧ RelV (.str "abcdefghijklmnopqrstuvwxyz") u
  c_GREATEST_NUMBER : ∃ u, mg "GREATEST_NUMBER" = some u ∧ RelV (.int 999999) u
  g_StandError : mg "StandError" = some (.ref A.C_StandError)
  g_BadMove : mg "BadMove" = some (.ref A.C_BadMove)
  g_BadEvent : mg "BadEvent" = some (.ref A.C_BadEvent)
  g_BadText : mg "BadText" = some (.ref A.C_BadText)
  su_BadEvent : SupTxt P K mg (inClass (top 3) 0) "BadEvent.__init__" A.i_BadEvent A.e_BadEvent A.C_BadEvent
  ox_BadEvent : OexC K A.C_BadEvent
  in_BadEvent : PySem.W.findIn K (.ref A.C_BadEvent) "__init__" = some (some (.ref A.i_BadEvent))
  ty_BadEvent : PySem.W.typeIn K (.ref A.i_BadEvent) = some (.type "function")
  be_BadEvent : Binds K A.e_BadEvent ["self", "event"] []
  no_BadEvent : PySem.W.findIn K (.ref A.C_BadEvent) "event" = some none
  xf_BadEvent : XfC K A.C_BadEvent
  ek_BadEvent : ExcK K A.C_BadEvent
  ct_BadEvent_BadEvent : PySem.W.exmOne K (.ref A.C_BadEvent) (.ref A.C_BadEvent) = some true
  ki_BadEvent_BadMove : PySem.W.kitOne K (.ref A.C_BadEvent) (.ref A.C_BadMove) = some false
  ki_BadEvent_BadText : PySem.W.kitOne K (.ref A.C_BadEvent) (.ref A.C_BadText) = some false
  ki_BadEvent_StandError : PySem.W.kitOne K (.ref A.C_BadEvent) (.ref A.C_StandError) = some true
  ki_BadEvent_ValueError : PySem.W.kitOne K (.ref A.C_BadEvent) (.type "ValueError") = some true
section
variable {P : Program} {w : World} {K : PySem.W.Frag} {mg : Str → Option Value} {base : Heap} {A : Ad}
theorem ctch_BadEvent_ok (T : Tx P K mg A) : ∀ (nm : Str) (Ca : Addr) (b : Bool), cl A nm = some Ca → ctch_BadEvent nm = some b → PySem.W.exmOne K (.ref Ca) (.ref A.C_BadEvent) = some b := by
  intro nm Ca b h1 h2
  unfold cl at h1
  unfold ctch_BadEvent at h2
  by_cases hBadEvent : nm = "BadEvent"
  · rw [if_pos hBadEvent] at h1 h2
    cases h1
    cases h2
    exact T.ct_BadEvent_BadEvent
  rw [if_neg hBadEvent] at h1 h2
  cases h1
theorem isx_BadMove_ok (T : Tx P K mg A) : ∀ (nm : Str) (Ca : Addr) (x : Bool), cl A nm = some Ca → isx_BadMove nm = some x → ExcK K Ca ∧ PySem.W.kitOne K (.ref Ca) (.ref A.C_BadMove) = some x := by
  intro nm Ca b h1 h2
  unfold cl at h1
  unfold isx_BadMove at h2
  by_cases hBadEvent : nm = "BadEvent"
  · rw [if_pos hBadEvent] at h1 h2
    cases h1
    cases h2
    exact ⟨T.ek_BadEvent, T.ki_BadEvent_BadMove⟩
  rw [if_neg hBadEvent] at h1 h2
  cases h1
theorem isx_BadText_ok (T : Tx P K mg A) : ∀ (nm : Str) (Ca : Addr) (x : Bool), cl A nm = some Ca → isx_BadText nm = some x → ExcK K Ca ∧ PySem.W.kitOne K (.ref Ca) (.ref A.C_BadText) = some x := by
  intro nm Ca b h1 h2
  unfold cl at h1
  unfold isx_BadText at h2
  by_cases hBadEvent : nm = "BadEvent"
  · rw [if_pos hBadEvent] at h1 h2
    cases h1
    cases h2
    exact ⟨T.ek_BadEvent, T.ki_BadEvent_BadText⟩
  rw [if_neg hBadEvent] at h1 h2
  cases h1
theorem isx_StandError_ok (T : Tx P K mg A) : ∀ (nm : Str) (Ca : Addr) (x : Bool), cl A nm = some Ca → isx_StandError nm = some x → ExcK K Ca ∧ PySem.W.kitOne K (.ref Ca) (.ref A.C_StandError) = some x := by
  intro nm Ca b h1 h2
  unfold cl at h1
  unfold isx_StandError at h2
  by_cases hBadEvent : nm = "BadEvent"
  · rw [if_pos hBadEvent] at h1 h2
    cases h1
    cases h2
    exact ⟨T.ek_BadEvent, T.ki_BadEvent_StandError⟩
  rw [if_neg hBadEvent] at h1 h2
  cases h1
theorem isx_ValueError_ok (T : Tx P K mg A) : ∀ (nm : Str) (Ca : Addr) (x : Bool), cl A nm = some Ca → isx_ValueError nm = some x → ExcK K Ca ∧ PySem.W.kitOne K (.ref Ca) (.type "ValueError") = some x := by
  intro nm Ca b h1 h2
  unfold cl at h1
  unfold isx_ValueError at h2
  by_cases hBadEvent : nm = "BadEvent"
  · rw [if_pos hBadEvent] at h1 h2
    cases h1
    cases h2
    exact ⟨T.ek_BadEvent, T.ki_BadEvent_ValueError⟩
  rw [if_neg hBadEvent] at h1 h2
  cases h1
theorem ss_BadEvent : SupSt (inClass (top 3) 0) "event" "event" "bad event" := ⟨⟨_, _, _, _, _, _, _, _, _, _, _, rfl, fun _ => ⟨_, rfl⟩⟩, NdefX.nscope_by (by decide +kernel), rfl, rfl, by decide⟩
theorem err_BadEvent (T : Tx P K mg A) : ErrC P w K mg base (cl A) "BadEvent" "event" := ⟨A.C_BadEvent, A.i_BadEvent, A.e_BadEvent, "event", T.g_BadEvent, by first | rfl | decide | simp [cl], T.ox_BadEvent, T.in_BadEvent, T.ty_BadEvent, sup_ok T.su_BadEvent ss_BadEvent T.ox_BadEvent T.no_BadEvent (by decide) (by decide), T.be_BadEvent⟩
theorem sc_is_name : FnScope ["thing", "letter"] ["thing"] (defScope (top 7)) := ⟨rfl, rfl, rfl, by decide +kernel, rfl, by decide +kernel, by decide +kernel⟩
theorem w_is_name (T : Tx P K mg A) : FnOk P w K mg base (L2.CX P w) 1 A.a_is_name A.d_is_name ["thing"] (spM K (cl A) 1 m_is_name) := by
  refine fn_ok T.f_is_name sc_is_name rfl rfl fun cdv Ar outer sh H E C => ?_
  unfold b_is_name
  exact css_cons (cs_if (PW.pt (cw_or (ct_not (ct_val (ce_isi .str (by decide) rfl T.n_isinstance C.hK rfl T.n_str (by first | boot_by_name | rfl | kernel_rfl) (ce_var 0)))) (cw_or1 (ct_not (ct_chain op_le op_le om_le om_le (ce_int) (ce_callB oc_len cm_len rfl T.n_len (by first | boot_by_name | rfl | kernel_rfl) (ca_cons (ce_var 0) (ca_nil))) (ce_int)))))) (css_one (cs_ret (ce_bl))) (css_nil)) (css_cons (cs_for C.own C.calm (bm_name nofx0) (ci_any C.hK (ce_var 0)) (pg_name (i := 1) C.nd rfl (by first | exact Or.inl rfl | exact Or.inr rfl)) (css_one (cs_if (ct_cmp (oo_notIn C.hu) om_notIn (ce_var 1) (ce_gstr T.c_LETTERS) (by rfl)) (css_one (cs_ret (ce_bl))) (css_nil)))) (css_one (cs_ret (ce_bl))))
theorem sc_is_count : FnScope ["thing"] ["thing"] (defScope (top 10)) := ⟨rfl, rfl, rfl, by decide +kernel, rfl, by decide +kernel, by decide +kernel⟩
theorem w_is_count (T : Tx P K mg A) : FnOk P w K mg base (L2.CX P w) 1 A.a_is_count A.d_is_count ["thing"] (spM K (cl A) 1 m_is_count) := by
  refine fn_ok T.f_is_count sc_is_count rfl rfl fun cdv Ar outer sh H E C => ?_
  unfold b_is_count
  exact css_one (cs_ret (ce_and (ce_isi .int (by decide) rfl T.n_isinstance C.hK rfl T.n_int (by first | boot_by_name | rfl | kernel_rfl) (ce_var 0)) (ce_and (ce_not (ce_isi .bool (by decide) rfl T.n_isinstance C.hK rfl T.n_bool (by first | boot_by_name | rfl | kernel_rfl) (ce_var 0))) (ce_one (ce_chain op_le op_le om_le om_le (ce_int) (ce_var 0) (ce_gint T.c_GREATEST_NUMBER))))))
theorem sc_is_shown : FnScope ["thing"] ["thing"] (defScope (top 11)) := ⟨rfl, rfl, rfl, by decide +kernel, rfl, by decide +kernel, by decide +kernel⟩
theorem w_is_shown (T : Tx P K mg A) : FnOk P w K mg base (L2.CX P w) 2 A.a_is_shown A.d_is_shown ["thing"] (spM K (cl A) 1 m_is_shown) := by
  refine fn_ok T.f_is_shown sc_is_shown rfl rfl fun cdv Ar outer sh H E C => ?_
  unfold b_is_shown
  exact css_cons (cs_if (PW.pt (cw_or (ct_not (ct_val (ce_isi .tup (by decide) rfl T.n_isinstance C.hK rfl T.n_tuple (by first | boot_by_name | rfl | kernel_rfl) (ce_var 0)))) (cw_or (ct_cmp (oo_eq C.hu) om_eq (ce_callB oc_len cm_len rfl T.n_len (by first | boot_by_name | rfl | kernel_rfl) (ca_cons (ce_var 0) (ca_nil))) (ce_int) (by rfl)) (cw_or1 (ct_not (ct_val (ce_isi .str (by decide) rfl T.n_isinstance C.hK rfl T.n_str (by first | boot_by_name | rfl | kernel_rfl) (ce_ix C.hu C.hK (ce_var 0) (ce_int) (fun _ _ => rfl))))))))) (css_one (cs_ret (ce_bl))) (css_nil)) (css_cons (cs_if (ct_cmp (oo_eq C.hu) om_eq (ce_ix C.hu C.hK (ce_var 0) (ce_int) (fun _ _ => rfl)) (ce_str) (by rfl)) (css_one (cs_ret (ce_and (ce_cmp (oo_eq C.hu) om_eq (ce_callB oc_len cm_len rfl T.n_len (by first | boot_by_name | rfl | kernel_rfl) (ca_cons (ce_var 0) (ca_nil))) (ce_int) (by rfl)) (ce_one (ce_call (w_is_name T) C (by decide) rfl T.g_is_name T.f_is_name.kp T.b_is_name .nil dfl0 (ca_cons (ce_ix C.hu C.hK (ce_var 0) (ce_int) (fun _ _ => rfl)) (ca_nil))))))) (css_nil)) (css_cons (cs_if (ct_cmp (oo_eq C.hu) om_eq (ce_ix C.hu C.hK (ce_var 0) (ce_int) (fun _ _ => rfl)) (ce_str) (by rfl)) (css_one (cs_ret (ce_and (ce_cmp (oo_eq C.hu) om_eq (ce_callB oc_len cm_len rfl T.n_len (by first | boot_by_name | rfl | kernel_rfl) (ca_cons (ce_var 0) (ca_nil))) (ce_int) (by rfl)) (ce_one (ce_call (w_is_count T) C (by decide) rfl T.g_is_count T.f_is_count.kp T.b_is_count .nil dfl0 (ca_cons (ce_ix C.hu C.hK (ce_var 0) (ce_int) (fun _ _ => rfl)) (ca_nil))))))) (css_nil)) (css_one (cs_ret (ce_and (ce_cmp (oo_in C.hu) om_in (ce_ix C.hu C.hK (ce_var 0) (ce_int) (fun _ _ => rfl)) (ce_tup (ca_cons (ce_str) (ca_cons (ce_str) (ca_nil)))) (by rfl)) (ce_one (ce_cmp (oo_eq C.hu) om_eq (ce_callB oc_len cm_len rfl T.n_len (by first | boot_by_name | rfl | kernel_rfl) (ca_cons (ce_var 0) (ca_nil))) (ce_int) (by rfl))))))))
theorem sc_is_event : FnScope ["thing"] ["thing"] (defScope (top 12)) := ⟨rfl, rfl, rfl, by decide +kernel, rfl, by decide +kernel, by decide +kernel⟩
theorem w_is_event (T : Tx P K mg A) : FnOk P w K mg base (L2.CX P w) 3 A.a_is_event A.d_is_event ["thing"] (spM K (cl A) 1 m_is_event) := by
  refine fn_ok T.f_is_event sc_is_event rfl rfl fun cdv Ar outer sh H E C => ?_
  unfold b_is_event
  exact css_cons (cs_if (PW.pt (cw_or (ct_not (ct_val (ce_isi .tup (by decide) rfl T.n_isinstance C.hK rfl T.n_tuple (by first | boot_by_name | rfl | kernel_rfl) (ce_var 0)))) (cw_or (ct_cmp (oo_eq C.hu) om_eq (ce_callB oc_len cm_len rfl T.n_len (by first | boot_by_name | rfl | kernel_rfl) (ca_cons (ce_var 0) (ca_nil))) (ce_int) (by rfl)) (cw_or1 (ct_not (ct_val (ce_isi .str (by decide) rfl T.n_isinstance C.hK rfl T.n_str (by first | boot_by_name | rfl | kernel_rfl) (ce_ix C.hu C.hK (ce_var 0) (ce_int) (fun _ _ => rfl))))))))) (css_one (cs_ret (ce_bl))) (css_nil)) (css_cons (cs_if (ct_cmp (oo_in C.hu) om_in (ce_ix C.hu C.hK (ce_var 0) (ce_int) (fun _ _ => rfl)) (ce_tup (ca_cons (ce_str) (ca_cons (ce_str) (ca_nil)))) (by rfl)) (css_one (cs_ret (ce_and (ce_cmp (oo_eq C.hu) om_eq (ce_callB oc_len cm_len rfl T.n_len (by first | boot_by_name | rfl | kernel_rfl) (ca_cons (ce_var 0) (ca_nil))) (ce_int) (by rfl)) (ce_one (ce_call (w_is_shown T) C (by decide) rfl T.g_is_shown T.f_is_shown.kp T.b_is_shown .nil dfl0 (ca_cons (ce_ix C.hu C.hK (ce_var 0) (ce_int) (fun _ _ => rfl)) (ca_nil))))))) (css_nil)) (css_cons (cs_if (PW.pt (cw_or (ct_cmp (oo_notIn C.hu) om_notIn (ce_ix C.hu C.hK (ce_var 0) (ce_int) (fun _ _ => rfl)) (ce_tup (ca_cons (ce_str) (ca_cons (ce_str) (ca_nil)))) (by rfl)) (cw_or1 (ct_cmp (oo_ne C.hu) om_ne (ce_callB oc_len cm_len rfl T.n_len (by first | boot_by_name | rfl | kernel_rfl) (ca_cons (ce_var 0) (ca_nil))) (ce_int) (by rfl))))) (css_one (cs_ret (ce_bl))) (css_nil)) (css_cons (cs_if (PW.pt (cw_and (ct_cmp (oo_eq C.hu) om_eq (ce_ix C.hu C.hK (ce_var 0) (ce_int) (fun _ _ => rfl)) (ce_str) (by rfl)) (cw_and1 (ct_not (ct_val (ce_call (w_is_count T) C (by decide) rfl T.g_is_count T.f_is_count.kp T.b_is_count .nil dfl0 (ca_cons (ce_ix C.hu C.hK (ce_var 0) (ce_int) (fun _ _ => rfl)) (ca_nil)))))))) (css_one (cs_ret (ce_bl))) (css_nil)) (css_cons (cs_if (PW.pt (cw_and (ct_cmp (oo_eq C.hu) om_eq (ce_ix C.hu C.hK (ce_var 0) (ce_int) (fun _ _ => rfl)) (ce_str) (by rfl)) (cw_and1 (ct_not (ct_val (ce_call (w_is_name T) C (by decide) rfl T.g_is_name T.f_is_name.kp T.b_is_name .nil dfl0 (ca_cons (ce_ix C.hu C.hK (ce_var 0) (ce_int) (fun _ _ => rfl)) (ca_nil)))))))) (css_one (cs_ret (ce_bl))) (css_nil)) (css_one (cs_ret (ce_and (ce_call (w_is_shown T) C (by decide) rfl T.g_is_shown T.f_is_shown.kp T.b_is_shown .nil dfl0 (ca_cons (ce_ix C.hu C.hK (ce_var 0) (ce_int) (fun _ _ => rfl)) (ca_nil))) (ce_one (ce_call (w_is_shown T) C (by decide) rfl T.g_is_shown T.f_is_shown.kp T.b_is_shown .nil dfl0 (ca_cons (ce_ix C.hu C.hK (ce_var 0) (ce_int) (fun _ _ => rfl)) (ca_nil)))))))))))
theorem sc_shown_text : FnScope ["value"] ["value"] (defScope (top 14)) := ⟨rfl, rfl, rfl, by decide +kernel, rfl, by decide +kernel, by decide +kernel⟩
theorem w_shown_text (T : Tx P K mg A) : FnOk P w K mg base (L2.CX P w) 1 A.a_shown_text A.d_shown_text ["value"] (spM K (cl A) 1 m_shown_text) := by
  refine fn_ok T.f_shown_text sc_shown_text rfl rfl fun cdv Ar outer sh H E C => ?_
  unfold b_shown_text
  exact css_cons (cs_if (ct_cmp (oo_eq C.hu) om_eq (ce_ix C.hu C.hK (ce_var 0) (ce_int) (fun _ _ => rfl)) (ce_str) (by rfl)) (css_one (cs_ret (ce_op oo_add om_add (ce_str) (ce_ix C.hu C.hK (ce_var 0) (ce_int) (fun _ _ => rfl))))) (css_nil)) (css_cons (cs_if (ct_cmp (oo_eq C.hu) om_eq (ce_ix C.hu C.hK (ce_var 0) (ce_int) (fun _ _ => rfl)) (ce_str) (by rfl)) (css_one (cs_ret (ce_joined (.cons (ce_str) (.cons (ce_fmt (ce_ix C.hu C.hK (ce_var 0) (ce_int) (fun _ _ => rfl))) .nil))))) (css_nil)) (css_one (cs_ret (ce_ix C.hu C.hK (ce_var 0) (ce_int) (fun _ _ => rfl)))))
theorem sc_event_text : FnScope ["event"] ["event"] (defScope (top 15)) := ⟨rfl, rfl, rfl, by decide +kernel, rfl, by decide +kernel, by decide +kernel⟩
theorem w_event_text (T : Tx P K mg A) : FnOk P w K mg base (L2.CX P w) 4 A.a_event_text A.d_event_text ["event"] (spM K (cl A) 1 m_event_text) := by
  refine fn_ok T.f_event_text sc_event_text rfl rfl fun cdv Ar outer sh H E C => ?_
  unfold b_event_text
  exact css_cons (cs_if (ct_not (ct_val (ce_call (w_is_event T) C (by decide) rfl T.g_is_event T.f_is_event.kp T.b_is_event .nil dfl0 (ca_cons (ce_var 0) (ca_nil))))) (css_one (cs_raise (err_BadEvent T) C (by decide) rfl (ce_var 0))) (css_nil)) (css_cons (cs_if (ct_cmp (oo_in C.hu) om_in (ce_ix C.hu C.hK (ce_var 0) (ce_int) (fun _ _ => rfl)) (ce_tup (ca_cons (ce_str) (ca_cons (ce_str) (ca_nil)))) (by rfl)) (css_one (cs_ret (ce_op oo_add om_add (ce_op oo_add om_add (ce_ix C.hu C.hK (ce_var 0) (ce_int) (fun _ _ => rfl)) (ce_str)) (ce_call (w_shown_text T) C (by decide) rfl T.g_shown_text T.f_shown_text.kp T.b_shown_text .nil dfl0 (ca_cons (ce_ix C.hu C.hK (ce_var 0) (ce_int) (fun _ _ => rfl)) (ca_nil)))))) (css_nil)) (css_one (cs_ret (ce_joined (.cons (ce_fmt (ce_ix C.hu C.hK (ce_var 0) (ce_int) (fun _ _ => rfl))) (.cons (ce_str) (.cons (ce_fmt (ce_ix C.hu C.hK (ce_var 0) (ce_int) (fun _ _ => rfl))) (.cons (ce_str) (.cons (ce_fmt (ce_call (w_shown_text T) C (by decide) rfl T.g_shown_text T.f_shown_text.kp T.b_shown_text .nil dfl0 (ca_cons (ce_ix C.hu C.hK (ce_var 0) (ce_int) (fun _ _ => rfl)) (ca_nil)))) (.cons (ce_str) (.cons (ce_fmt (ce_call (w_shown_text T) C (by decide) rfl T.g_shown_text T.f_shown_text.kp T.b_shown_text .nil dfl0 (ca_cons (ce_ix C.hu C.hK (ce_var 0) (ce_int) (fun _ _ => rfl)) (ca_nil)))) .nil)))))))))))
theorem sc_law_mix : FnScope ["_law_number_here", "_law_k"] ["_law_number_here", "_law_k"] (defScope (top 17)) := ⟨rfl, rfl, rfl, by decide +kernel, rfl, by decide +kernel, by decide +kernel⟩
theorem w_law_mix (T : Tx P K mg A) : FnOk P w K mg base (L2.CX P w) 1 A.a_law_mix A.d_law_mix ["_law_number_here", "_law_k"] (spM K (cl A) 2 m_law_mix) := by
  refine fn_ok T.f_law_mix sc_law_mix rfl rfl fun cdv Ar outer sh H E C => ?_
  unfold b_law_mix
  exact css_cons (cs_set 0 C.nd nofx0 (ce_op op_modN om_mod (ce_op oo_mul om_mul (ce_op oo_add om_add (ce_op oo_add om_add (ce_var 0) (ce_op oo_mul om_mul (ce_int) (ce_var 1))) (ce_int)) (ce_int)) (ce_int))) (css_cons (cs_set 0 C.nd nofx0 (ce_op op_modN om_mod (ce_op oo_mul om_mul (ce_var 0) (ce_op oo_add om_add (ce_op op_fdivN om_fdiv (ce_var 0) (ce_int)) (ce_int))) (ce_int))) (css_one (cs_ret (ce_op op_modN om_mod (ce_op oo_mul om_mul (ce_var 0) (ce_op oo_add om_add (ce_op op_fdivN om_fdiv (ce_var 0) (ce_int)) (ce_int))) (ce_int)))))
theorem sc_law_source : FnScope ["_law_script"] ["_law_script"] (defScope (top 18)) := ⟨rfl, rfl, rfl, by decide +kernel, rfl, by decide +kernel, by decide +kernel⟩
theorem w_law_source (T : Tx P K mg A) : FnOk P w K mg base (L2.CX P w) 1 A.a_law_source A.d_law_source ["_law_script"] (spM K (cl A) 1 m_law_source) := by
  refine fn_ok T.f_law_source sc_law_source rfl rfl fun cdv Ar outer sh H E C => ?_
  unfold b_law_source
  exact css_one (cs_ret (ce_lst (ca_cons (ce_callTy call_list_of cm_list rfl T.n_list (by first | boot_by_name | rfl | kernel_rfl) (ca_cons (ce_slice C.hK (ce_var 0) (co_none) (co_some (ce_int))) (ca_nil))) (ca_cons (ce_int) (ca_cons (ce_int) (ca_cons (ce_int) (ca_cons (ce_int) (ca_nil))))))))
theorem sc_law_draw : FnScope ["_law_source_here", "_law_many", "_law_cell", "_law_digit"] ["_law_source_here", "_law_many"] (defScope (top 19)) := ⟨rfl, rfl, rfl, by decide +kernel, rfl, by decide +kernel, by decide +kernel⟩
theorem w_law_draw (T : Tx P K mg A) : FnOk P w K mg base (L2.CX P w) 2 A.a_law_draw A.d_law_draw ["_law_source_here", "_law_many"] (spM K (cl A) 2 m_law_draw) := by
  refine fn_ok T.f_law_draw sc_law_draw rfl rfl fun cdv Ar outer sh H E C => ?_
  unfold b_law_draw
  exact css_cons (cs_store (os_any C.hu) sm_any (ce_op oo_add om_add (ce_ix C.hu C.hK (ce_var 0) (ce_int) (fun _ _ => rfl)) (ce_int)) (ce_var 0) (ce_int)) (css_cons (cs_if (PW.pt (cw_and (ct_cmp op_le om_le (ce_ix C.hu C.hK (ce_var 0) (ce_int) (fun _ _ => rfl)) (ce_int) (by rfl)) (cw_and1 (ct_cmp op_lt om_lt (ce_ix C.hu C.hK (ce_var 0) (ce_int) (fun _ _ => rfl)) (ce_callB oc_len cm_len rfl T.n_len (by first | boot_by_name | rfl | kernel_rfl) (ca_cons (ce_ix C.hu C.hK (ce_var 0) (ce_int) (fun _ _ => rfl)) (ca_nil))) (by rfl))))) (css_cons (cs_set 2 C.nd nofx0 (ce_ix C.hu C.hK (ce_ix C.hu C.hK (ce_var 0) (ce_int) (fun _ _ => rfl)) (ce_ix C.hu C.hK (ce_var 0) (ce_int) (fun _ _ => rfl)) (fun _ _ => rfl))) (css_cons (cs_store (os_any C.hu) sm_any (ce_op oo_add om_add (ce_ix C.hu C.hK (ce_var 0) (ce_int) (fun _ _ => rfl)) (ce_int)) (ce_var 0) (ce_int)) (css_cons (cs_store (os_any C.hu) sm_any (ce_op op_modN om_mod (ce_callTy call_int1 cm_int rfl T.n_int (by first | boot_by_name | rfl | kernel_rfl) (ca_cons (ce_op oo_add om_add (ce_op oo_mul om_mul (ce_ix C.hu C.hK (ce_var 0) (ce_int) (fun _ _ => rfl)) (ce_int)) (ce_var 2)) (ca_nil))) (ce_int)) (ce_var 0) (ce_int)) (css_cons (cs_store (os_any C.hu) sm_any (ce_int) (ce_var 0) (ce_int)) (css_one (cs_if (ct_cmp op_ge om_ge (ce_var 2) (ce_op op_pow om_pow (ce_int) (ce_int)) (by rfl)) (css_one (cs_store (os_any C.hu) sm_any (ce_var 2) (ce_var 0) (ce_int))) (css_nil))))))) (css_nil)) (css_cons (cs_if (ct_cmp op_gt om_gt (ce_ix C.hu C.hK (ce_var 0) (ce_int) (fun _ _ => rfl)) (ce_int) (by rfl)) (css_cons (cs_set 3 C.nd nofx0 (ce_op op_modN om_mod (ce_callTy call_int1 cm_int rfl T.n_int (by first | boot_by_name | rfl | kernel_rfl) (ca_cons (ce_ix C.hu C.hK (ce_var 0) (ce_int) (fun _ _ => rfl)) (ca_nil))) (ce_var 1))) (css_cons (cs_store (os_any C.hu) sm_any (ce_op op_fdivN om_fdiv (ce_ix C.hu C.hK (ce_var 0) (ce_int) (fun _ _ => rfl)) (ce_var 1)) (ce_var 0) (ce_int)) (css_one (cs_ret (ce_var 3))))) (css_nil)) (css_one (cs_ret (ce_op op_modN om_mod (ce_op op_fdivN om_fdiv (ce_call (w_law_mix T) C (by decide) rfl T.g_law_mix T.f_law_mix.kp T.b_law_mix .nil dfl0 (ca_cons (ce_ix C.hu C.hK (ce_var 0) (ce_int) (fun _ _ => rfl)) (ca_cons (ce_ix C.hu C.hK (ce_var 0) (ce_int) (fun _ _ => rfl)) (ca_nil)))) (ce_int)) (ce_var 1))))))
theorem sc_law_names : FnScope ["_law_source_here", "_law_many", "_law_alphabet", "_law_front", "_law_shift", "_law_names_here", "_law_k", "_law_base", "_law_letter", "_law_j"] ["_law_source_here", "_law_many"] (defScope (top 22)) := ⟨rfl, rfl, rfl, by decide +kernel, rfl, by decide +kernel, by decide +kernel⟩
theorem w_law_names (T : Tx P K mg A) : FnOk P w K mg base (L2.CX P w) 3 A.a_law_names A.d_law_names ["_law_source_here", "_law_many"] (spM K (cl A) 2 m_law_names) := by
  refine fn_ok T.f_law_names sc_law_names rfl rfl fun cdv Ar outer sh H E C => ?_
  unfold b_law_names
  exact css_cons (cs_set 2 C.nd nofx0 (ce_str)) (css_cons (cs_set 3 C.nd nofx0 (ce_cmp (oo_eq C.hu) om_eq (ce_call (w_law_draw T) C (by decide) rfl T.g_law_draw T.f_law_draw.kp T.b_law_draw .nil dfl0 (ca_cons (ce_var 0) (ca_cons (ce_int) (ca_nil)))) (ce_int) (by rfl))) (css_cons (cs_set 4 C.nd nofx0 (ce_call (w_law_draw T) C (by decide) rfl T.g_law_draw T.f_law_draw.kp T.b_law_draw .nil dfl0 (ca_cons (ce_var 0) (ca_cons (ce_int) (ca_nil))))) (css_cons (cs_set 5 C.nd nofx0 (ce_lst (ca_nil))) (css_cons (cs_for C.own C.calm (bm_name nofx0) (ci_rng1 rfl T.n_range (ca_cons (ce_var 1) (ca_nil))) (pg_name (i := 6) C.nd rfl (by first | exact Or.inl rfl | exact Or.inr rfl)) (css_cons (cs_set 7 C.nd nofx0 (ce_meth PySem.F.plainAttrs_str PySem.F.slot_str_join PySem.F.type_str_join mt_join C.hK (fun _ _ _ _ _ => ty_str) mm_join (ce_str) (ca_cons (ce_lc (own := [("_law_j", 9)]) C nofxs (bc_name nofx0 (by decide)) (blkOk_by (N := ["_law_source_here", "_law_many", "_law_alphabet", "_law_front", "_law_shift", "_law_names_here", "_law_k", "_law_base", "_law_letter", "_law_j"]) (sc := defScope (top 22)) (by decide +kernel)) (ci_rng1 rfl T.n_range (ca_cons (ce_call (w_law_draw T) C (by decide) rfl T.g_law_draw T.f_law_draw.kp T.b_law_draw .nil dfl0 (ca_cons (ce_var 0) (ca_cons (ce_int) (ca_nil)))) (ca_nil))) (fun _ _ _ _ _ => pg_name (i := 9) C.nd rfl (Or.inl rfl)) (fun _ _ _ _ _ C => cpts_nil) (fun _ _ _ _ _ C => ce_ix C.hu C.hK (ce_var 2) (ce_call (w_law_draw T) C (by decide) rfl T.g_law_draw T.f_law_draw.kp T.b_law_draw .nil dfl0 (ca_cons (ce_var 0) (ca_cons (ce_int) (ca_nil)))) (fun _ _ => rfl))) (ca_nil)))) (css_cons (cs_set 8 C.nd nofx0 (ce_ix C.hu C.hK (ce_var 2) (ce_op op_modN om_mod (ce_op oo_add om_add (ce_var 4) (ce_var 6)) (ce_int)) (fun _ _ => rfl))) (css_one (cs_if (ct_val (ce_var 3)) (css_one (cs_expr (ce_meth PySem.F.plainAttrs_list PySem.F.slot_list_append PySem.F.type_list_append mt_append C.hK (fun _ _ _ _ _ => ty_lst) mm_append (ce_var 5) (ca_cons (ce_op oo_add om_add (ce_var 8) (ce_var 7)) (ca_nil))))) (css_one (cs_expr (ce_meth PySem.F.plainAttrs_list PySem.F.slot_list_append PySem.F.type_list_append mt_append C.hK (fun _ _ _ _ _ => ty_lst) mm_append (ce_var 5) (ca_cons (ce_op oo_add om_add (ce_var 7) (ce_var 8)) (ca_nil)))))))))) (css_one (cs_ret (ce_var 5)))))))
theorem sc_law_number : FnScope ["_law_source_here", "_law_kind"] ["_law_source_here"] (defScope (top 23)) := ⟨rfl, rfl, rfl, by decide +kernel, rfl, by decide +kernel, by decide +kernel⟩
theorem w_law_number (T : Tx P K mg A) : FnOk P w K mg base (L2.CX P w) 3 A.a_law_number A.d_law_number ["_law_source_here"] (spM K (cl A) 1 m_law_number) := by
  refine fn_ok T.f_law_number sc_law_number rfl rfl fun cdv Ar outer sh H E C => ?_
  unfold b_law_number
  exact css_cons (cs_set 1 C.nd nofx0 (ce_call (w_law_draw T) C (by decide) rfl T.g_law_draw T.f_law_draw.kp T.b_law_draw .nil dfl0 (ca_cons (ce_var 0) (ca_cons (ce_int) (ca_nil))))) (css_cons (cs_if (ct_cmp op_lt om_lt (ce_var 1) (ce_int) (by rfl)) (css_one (cs_ret (ce_ix C.hu C.hK (ce_lst (ca_cons (ce_int) (ca_cons (ce_int) (ca_nil)))) (ce_var 1) (fun _ _ => rfl)))) (css_nil)) (css_cons (cs_if (ct_cmp op_lt om_lt (ce_var 1) (ce_int) (by rfl)) (css_one (cs_ret (ce_call (w_law_draw T) C (by decide) rfl T.g_law_draw T.f_law_draw.kp T.b_law_draw .nil dfl0 (ca_cons (ce_var 0) (ca_cons (ce_int) (ca_nil)))))) (css_nil)) (css_one (cs_ret (ce_call (w_law_draw T) C (by decide) rfl T.g_law_draw T.f_law_draw.kp T.b_law_draw .nil dfl0 (ca_cons (ce_var 0) (ca_cons (ce_op op_pow om_pow (ce_int) (ce_int)) (ca_nil))))))))
theorem sc_law_value : FnScope ["_law_source_here", "_law_kind"] ["_law_source_here"] (defScope (top 24)) := ⟨rfl, rfl, rfl, by decide +kernel, rfl, by decide +kernel, by decide +kernel⟩
theorem w_law_value (T : Tx P K mg A) : FnOk P w K mg base (L2.CX P w) 4 A.a_law_value A.d_law_value ["_law_source_here"] (spM K (cl A) 1 m_law_value) := by
  refine fn_ok T.f_law_value sc_law_value rfl rfl fun cdv Ar outer sh H E C => ?_
  unfold b_law_value
  exact css_cons (cs_set 1 C.nd nofx0 (ce_call (w_law_draw T) C (by decide) rfl T.g_law_draw T.f_law_draw.kp T.b_law_draw .nil dfl0 (ca_cons (ce_var 0) (ca_cons (ce_int) (ca_nil))))) (css_cons (cs_if (ct_cmp op_lt om_lt (ce_var 1) (ce_int) (by rfl)) (css_one (cs_ret (ce_ix C.hu C.hK (ce_lst (ca_cons (ce_tup (ca_cons (ce_str) (ca_nil))) (ca_cons (ce_tup (ca_cons (ce_str) (ca_nil))) (ca_nil)))) (ce_var 1) (fun _ _ => rfl)))) (css_nil)) (css_cons (cs_if (ct_cmp (oo_eq C.hu) om_eq (ce_var 1) (ce_int) (by rfl)) (css_one (cs_ret (ce_tup (ca_cons (ce_str) (ca_cons (ce_call (w_law_number T) C (by decide) rfl T.g_law_number T.f_law_number.kp T.b_law_number .nil dfl0 (ca_cons (ce_var 0) (ca_nil))) (ca_nil)))))) (css_nil)) (css_one (cs_ret (ce_tup (ca_cons (ce_str) (ca_cons (ce_ix C.hu C.hK (ce_call (w_law_names T) C (by decide) rfl T.g_law_names T.f_law_names.kp T.b_law_names .nil dfl0 (ca_cons (ce_var 0) (ca_cons (ce_int) (ca_nil)))) (ce_int) (fun _ _ => rfl)) (ca_nil))))))))
theorem sc_law_event : FnScope ["_law_source_here", "_law_kind", "_law_one"] ["_law_source_here"] (defScope (top 25)) := ⟨rfl, rfl, rfl, by decide +kernel, rfl, by decide +kernel, by decide +kernel⟩
theorem w_law_event (T : Tx P K mg A) : FnOk P w K mg base (L2.CX P w) 5 A.a_law_event A.d_law_event ["_law_source_here"] (spM K (cl A) 1 m_law_event) := by
  refine fn_ok T.f_law_event sc_law_event rfl rfl fun cdv Ar outer sh H E C => ?_
  unfold b_law_event
  exact css_cons (cs_set 1 C.nd nofx0 (ce_call (w_law_draw T) C (by decide) rfl T.g_law_draw T.f_law_draw.kp T.b_law_draw .nil dfl0 (ca_cons (ce_var 0) (ca_cons (ce_int) (ca_nil))))) (css_cons (cs_set 2 C.nd nofx0 (ce_call (w_law_value T) C (by decide) rfl T.g_law_value T.f_law_value.kp T.b_law_value .nil dfl0 (ca_cons (ce_var 0) (ca_nil)))) (css_cons (cs_if (ct_cmp op_lt om_lt (ce_var 1) (ce_int) (by rfl)) (css_one (cs_ret (ce_tup (ca_cons (ce_ix C.hu C.hK (ce_lst (ca_cons (ce_str) (ca_cons (ce_str) (ca_nil)))) (ce_var 1) (fun _ _ => rfl)) (ca_cons (ce_var 2) (ca_nil)))))) (css_nil)) (css_cons (cs_if (ct_cmp (oo_eq C.hu) om_eq (ce_var 1) (ce_int) (by rfl)) (css_one (cs_ret (ce_tup (ca_cons (ce_str) (ca_cons (ce_call (w_law_number T) C (by decide) rfl T.g_law_number T.f_law_number.kp T.b_law_number .nil dfl0 (ca_cons (ce_var 0) (ca_nil))) (ca_cons (ce_var 2) (ca_cons (ce_call (w_law_value T) C (by decide) rfl T.g_law_value T.f_law_value.kp T.b_law_value .nil dfl0 (ca_cons (ce_var 0) (ca_nil))) (ca_nil)))))))) (css_nil)) (css_one (cs_ret (ce_tup (ca_cons (ce_str) (ca_cons (ce_ix C.hu C.hK (ce_call (w_law_names T) C (by decide) rfl T.g_law_names T.f_law_names.kp T.b_law_names .nil dfl0 (ca_cons (ce_var 0) (ca_cons (ce_int) (ca_nil)))) (ce_int) (fun _ _ => rfl)) (ca_cons (ce_var 2) (ca_cons (ce_call (w_law_value T) C (by decide) rfl T.g_law_value T.f_law_value.kp T.b_law_value .nil dfl0 (ca_cons (ce_var 0) (ca_nil))) (ca_nil)))))))))))
theorem sc_law_near : FnScope ["_law_source_here", "_law_event_here", "_law_at"] ["_law_source_here", "_law_event_here"] (defScope (top 26)) := ⟨rfl, rfl, rfl, by decide +kernel, rfl, by decide +kernel, by decide +kernel⟩
theorem w_law_near (T : Tx P K mg A) : FnOk P w K mg base (L2.CX P w) 6 A.a_law_near A.d_law_near ["_law_source_here", "_law_event_here"] (spM K (cl A) 2 m_law_near) := by
  refine fn_ok T.f_law_near sc_law_near rfl rfl fun cdv Ar outer sh H E C => ?_
  unfold b_law_near
  exact css_cons (cs_set 2 C.nd nofx0 (ce_call (w_law_draw T) C (by decide) rfl T.g_law_draw T.f_law_draw.kp T.b_law_draw .nil dfl0 (ca_cons (ce_var 0) (ca_cons (ce_callB oc_len cm_len rfl T.n_len (by first | boot_by_name | rfl | kernel_rfl) (ca_cons (ce_var 1) (ca_nil))) (ca_nil))))) (css_cons (cs_if (PW.pt (cw_or (ct_cmp (oo_eq C.hu) om_eq (ce_var 2) (ce_int) (by rfl)) (cw_or (PW.pt (cw_and (ct_cmp (oo_eq C.hu) om_eq (ce_ix C.hu C.hK (ce_var 1) (ce_int) (fun _ _ => rfl)) (ce_str) (by rfl)) (cw_and1 (ct_cmp (oo_eq C.hu) om_eq (ce_var 2) (ce_int) (by rfl))))) (cw_or1 (PW.pt (cw_and (ct_cmp (oo_eq C.hu) om_eq (ce_ix C.hu C.hK (ce_var 1) (ce_int) (fun _ _ => rfl)) (ce_str) (by rfl)) (cw_and1 (ct_cmp (oo_eq C.hu) om_eq (ce_var 2) (ce_int) (by rfl))))))))) (css_one (cs_ret (ce_call (w_law_event T) C (by decide) rfl T.g_law_event T.f_law_event.kp T.b_law_event .nil dfl0 (ca_cons (ce_var 0) (ca_nil))))) (css_nil)) (css_one (cs_ret (ce_op oo_add om_add (ce_op oo_add om_add (ce_slice C.hK (ce_var 1) (co_none) (co_some (ce_var 2))) (ce_tup (ca_cons (ce_call (w_law_value T) C (by decide) rfl T.g_law_value T.f_law_value.kp T.b_law_value .nil dfl0 (ca_cons (ce_var 0) (ca_nil))) (ca_nil)))) (ce_slice C.hK (ce_var 1) (co_some (ce_op oo_add om_add (ce_var 2) (ce_int))) (co_none))))))
theorem sc_law_due : FnScope ["_law_event_here", "_law_parts", "_law_part"] ["_law_event_here"] (defScope (top 27)) := ⟨rfl, rfl, rfl, by decide +kernel, rfl, by decide +kernel, by decide +kernel⟩
theorem w_law_due (T : Tx P K mg A) : FnOk P w K mg base (L2.CX P w) 1 A.a_law_due A.d_law_due ["_law_event_here"] (spM K (cl A) 1 m_law_due) := by
  refine fn_ok T.f_law_due sc_law_due rfl rfl fun cdv Ar outer sh H E C => ?_
  unfold b_law_due
  exact css_cons (cs_set 1 C.nd nofx0 (ce_lst (ca_cons (ce_ix C.hu C.hK (ce_var 0) (ce_int) (fun _ _ => rfl)) (ca_nil)))) (css_cons (cs_for C.own C.calm (bm_name nofx0) (ci_any C.hK (ce_slice C.hK (ce_var 0) (co_some (ce_int)) (co_none))) (pg_name (i := 2) C.nd rfl (by first | exact Or.inl rfl | exact Or.inr rfl)) (css_one (cs_if (ct_val (ce_isi .tup (by decide) rfl T.n_isinstance C.hK rfl T.n_tuple (by first | boot_by_name | rfl | kernel_rfl) (ce_var 2))) (css_cons (cs_if (ct_cmp (oo_eq C.hu) om_eq (ce_ix C.hu C.hK (ce_var 2) (ce_int) (fun _ _ => rfl)) (ce_str) (by rfl)) (css_one (cs_expr (ce_meth PySem.F.plainAttrs_list PySem.F.slot_list_append PySem.F.type_list_append mt_append C.hK (fun _ _ _ _ _ => ty_lst) mm_append (ce_var 1) (ca_cons (ce_op oo_add om_add (ce_str) (ce_ix C.hu C.hK (ce_var 2) (ce_int) (fun _ _ => rfl))) (ca_nil))))) (css_one (cs_expr (ce_meth PySem.F.plainAttrs_list PySem.F.slot_list_append PySem.F.type_list_append mt_append C.hK (fun _ _ _ _ _ => ty_lst) mm_append (ce_var 1) (ca_cons (ce_ix C.hu C.hK (ce_var 2) (ce_int) (fun _ _ => rfl)) (ca_nil)))))) (css_one (cs_if (ct_cmp (oo_eq C.hu) om_eq (ce_ix C.hu C.hK (ce_var 2) (ce_int) (fun _ _ => rfl)) (ce_str) (by rfl)) (css_one (cs_expr (ce_meth PySem.F.plainAttrs_list PySem.F.slot_list_append PySem.F.type_list_append mt_append C.hK (fun _ _ _ _ _ => ty_lst) mm_append (ce_var 1) (ca_cons (ce_callTy oc_str cm_str rfl T.n_str (by first | boot_by_name | rfl | kernel_rfl) (ca_cons (ce_ix C.hu C.hK (ce_var 2) (ce_int) (fun _ _ => rfl)) (ca_nil))) (ca_nil))))) (css_nil)))) (css_one (cs_if (ct_val (ce_isi .str (by decide) rfl T.n_isinstance C.hK rfl T.n_str (by first | boot_by_name | rfl | kernel_rfl) (ce_var 2))) (css_one (cs_expr (ce_meth PySem.F.plainAttrs_list PySem.F.slot_list_append PySem.F.type_list_append mt_append C.hK (fun _ _ _ _ _ => ty_lst) mm_append (ce_var 1) (ca_cons (ce_var 2) (ca_nil))))) (css_one (cs_expr (ce_meth PySem.F.plainAttrs_list PySem.F.slot_list_append PySem.F.type_list_append mt_append C.hK (fun _ _ _ _ _ => ty_lst) mm_append (ce_var 1) (ca_cons (ce_callTy oc_str cm_str rfl T.n_str (by first | boot_by_name | rfl | kernel_rfl) (ca_cons (ce_var 2) (ca_nil))) (ca_nil)))))))))) (css_one (cs_ret (ce_meth PySem.F.plainAttrs_str PySem.F.slot_str_join PySem.F.type_str_join mt_join C.hK (fun _ _ _ _ _ => ty_str) mm_join (ce_str) (ca_cons (ce_var 1) (ca_nil))))))
theorem sc_law_spoiled : FnScope ["_law_source_here", "_law_event_here", "_law_choice", "_law_bad_number", "_law_bad_name", "_law_values", "_law_value_here", "_law_at"] ["_law_source_here", "_law_event_here"] (defScope (top 28)) := ⟨rfl, rfl, rfl, by decide +kernel, rfl, by decide +kernel, by decide +kernel⟩
theorem w_law_spoiled (T : Tx P K mg A) : FnOk P w K mg base (L2.CX P w) 3 A.a_law_spoiled A.d_law_spoiled ["_law_source_here", "_law_event_here"] (spM K (cl A) 2 m_law_spoiled) := by
  refine fn_ok T.f_law_spoiled sc_law_spoiled rfl rfl fun cdv Ar outer sh H E C => ?_
  unfold b_law_spoiled
  exact css_cons (cs_set 2 C.nd nofx0 (ce_call (w_law_draw T) C (by decide) rfl T.g_law_draw T.f_law_draw.kp T.b_law_draw .nil dfl0 (ca_cons (ce_var 0) (ca_cons (ce_int) (ca_nil))))) (css_cons (cs_set 3 C.nd nofx0 (ce_ix C.hu C.hK (ce_lst (ca_cons (ce_un un_neg um_neg (ce_int)) (ca_cons (ce_op op_pow om_pow (ce_int) (ce_int)) (ca_cons (ce_bl) (ca_cons (ce_bl) (ca_cons (ce_str) (ca_cons (ce_non) (ca_cons (ce_un un_neg um_neg (ce_op op_pow om_pow (ce_int) (ce_int))) (ca_cons (ce_tup (ca_nil)) (ca_nil)))))))))) (ce_call (w_law_draw T) C (by decide) rfl T.g_law_draw T.f_law_draw.kp T.b_law_draw .nil dfl0 (ca_cons (ce_var 0) (ca_cons (ce_int) (ca_nil)))) (fun _ _ => rfl))) (css_cons (cs_set 4 C.nd nofx0 (ce_ix C.hu C.hK (ce_lst (ca_cons (ce_str) (ca_cons (ce_str) (ca_cons (ce_str) (ca_cons (ce_str) (ca_cons (ce_str) (ca_cons (ce_int) (ca_cons (ce_non) (ca_cons (ce_bl) (ca_cons (ce_tup (ca_cons (ce_str) (ca_nil))) (ca_nil))))))))))) (ce_call (w_law_draw T) C (by decide) rfl T.g_law_draw T.f_law_draw.kp T.b_law_draw .nil dfl0 (ca_cons (ce_var 0) (ca_cons (ce_int) (ca_nil)))) (fun _ _ => rfl))) (css_cons (cs_set 5 C.nd nofx0 (ce_lst (ca_cons (ce_tup (ca_cons (ce_str) (ca_cons (ce_var 3) (ca_nil)))) (ca_cons (ce_tup (ca_cons (ce_str) (ca_cons (ce_var 4) (ca_nil)))) (ca_cons (ce_tup (ca_cons (ce_str) (ca_nil))) (ca_cons (ce_tup (ca_cons (ce_str) (ca_nil))) (ca_cons (ce_tup (ca_cons (ce_str) (ca_cons (ce_int) (ca_nil)))) (ca_cons (ce_tup (ca_cons (ce_str) (ca_cons (ce_tup (ca_nil)) (ca_nil)))) (ca_cons (ce_tup (ca_cons (ce_str) (ca_cons (ce_int) (ca_nil)))) (ca_cons (ce_tup (ca_cons (ce_str) (ca_cons (ce_int) (ca_nil)))) (ca_cons (ce_tup (ca_cons (ce_str) (ca_cons (ce_str) (ca_nil)))) (ca_cons (ce_lst (ca_cons (ce_str) (ca_nil))) (ca_cons (ce_str) (ca_cons (ce_int) (ca_cons (ce_non) (ca_cons (ce_tup (ca_nil)) (ca_cons (ce_tup (ca_cons (ce_str) (ca_cons (ce_str) (ca_nil)))) (ca_cons (ce_tup (ca_cons (ce_str) (ca_cons (ce_str) (ca_cons (ce_str) (ca_nil))))) (ca_cons (ce_tup (ca_cons (ce_tup (ca_cons (ce_str) (ca_nil))) (ca_nil))) (ca_nil)))))))))))))))))))) (css_cons (cs_set 6 C.nd nofx0 (ce_ix C.hu C.hK (ce_var 5) (ce_call (w_law_draw T) C (by decide) rfl T.g_law_draw T.f_law_draw.kp T.b_law_draw .nil dfl0 (ca_cons (ce_var 0) (ca_cons (ce_callB oc_len cm_len rfl T.n_len (by first | boot_by_name | rfl | kernel_rfl) (ca_cons (ce_var 5) (ca_nil))) (ca_nil)))) (fun _ _ => rfl))) (css_cons (cs_set 7 C.nd nofx0 (ce_op oo_add om_add (ce_call (w_law_draw T) C (by decide) rfl T.g_law_draw T.f_law_draw.kp T.b_law_draw .nil dfl0 (ca_cons (ce_var 0) (ca_cons (ce_op op_sub om_sub (ce_callB oc_len cm_len rfl T.n_len (by first | boot_by_name | rfl | kernel_rfl) (ca_cons (ce_var 1) (ca_nil))) (ce_int)) (ca_nil)))) (ce_int))) (css_cons (cs_if (ct_cmp (oo_eq C.hu) om_eq (ce_var 2) (ce_int) (by rfl)) (css_one (cs_ret (ce_ix C.hu C.hK (ce_lst (ca_cons (ce_callTy call_list_of cm_list rfl T.n_list (by first | boot_by_name | rfl | kernel_rfl) (ca_cons (ce_var 1) (ca_nil))) (ca_cons (ce_dict0) (ca_cons (ce_non) (ca_cons (ce_str) (ca_cons (ce_int) (ca_cons (ce_tup (ca_nil)) (ca_cons (ce_bl) (ca_cons (ce_tup (ca_cons (ce_str) (ca_nil))) (ca_cons (ce_tup (ca_cons (ce_var 1) (ca_nil))) (ca_nil))))))))))) (ce_call (w_law_draw T) C (by decide) rfl T.g_law_draw T.f_law_draw.kp T.b_law_draw .nil dfl0 (ca_cons (ce_var 0) (ca_cons (ce_int) (ca_nil)))) (fun _ _ => rfl)))) (css_nil)) (css_cons (cs_if (ct_cmp (oo_eq C.hu) om_eq (ce_var 2) (ce_int) (by rfl)) (css_one (cs_ret (ce_op oo_add om_add (ce_slice C.hK (ce_var 1) (co_none) (co_some (ce_var 7))) (ce_slice C.hK (ce_var 1) (co_some (ce_op oo_add om_add (ce_var 7) (ce_int))) (co_none))))) (css_nil)) (css_cons (cs_if (ct_cmp (oo_eq C.hu) om_eq (ce_var 2) (ce_int) (by rfl)) (css_one (cs_ret (ce_op oo_add om_add (ce_var 1) (ce_tup (ca_cons (ce_tup (ca_cons (ce_str) (ca_nil))) (ca_nil)))))) (css_nil)) (css_cons (cs_if (ct_cmp (oo_eq C.hu) om_eq (ce_var 2) (ce_int) (by rfl)) (css_one (cs_ret (ce_op oo_add om_add (ce_tup (ca_cons (ce_ix C.hu C.hK (ce_lst (ca_cons (ce_str) (ca_cons (ce_str) (ca_cons (ce_str) (ca_cons (ce_str) (ca_cons (ce_int) (ca_cons (ce_non) (ca_cons (ce_tup (ca_cons (ce_str) (ca_nil))) (ca_cons (ce_str) (ca_cons (ce_str) (ca_nil))))))))))) (ce_call (w_law_draw T) C (by decide) rfl T.g_law_draw T.f_law_draw.kp T.b_law_draw .nil dfl0 (ca_cons (ce_var 0) (ca_cons (ce_int) (ca_nil)))) (fun _ _ => rfl)) (ca_nil))) (ce_slice C.hK (ce_var 1) (co_some (ce_int)) (co_none))))) (css_nil)) (css_cons (cs_if (PW.pt (cw_and (ct_cmp op_lt om_lt (ce_var 2) (ce_int) (by rfl)) (cw_and1 (ct_val (ce_isi .tup (by decide) rfl T.n_isinstance C.hK rfl T.n_tuple (by first | boot_by_name | rfl | kernel_rfl) (ce_ix C.hu C.hK (ce_var 1) (ce_var 7) (fun _ _ => rfl))))))) (css_one (cs_ret (ce_op oo_add om_add (ce_op oo_add om_add (ce_slice C.hK (ce_var 1) (co_none) (co_some (ce_var 7))) (ce_tup (ca_cons (ce_var 6) (ca_nil)))) (ce_slice C.hK (ce_var 1) (co_some (ce_op oo_add om_add (ce_var 7) (ce_int))) (co_none))))) (css_nil)) (css_cons (cs_if (PW.pt (cw_and (ct_cmp op_lt om_lt (ce_var 2) (ce_int) (by rfl)) (cw_and1 (ct_cmp (oo_eq C.hu) om_eq (ce_ix C.hu C.hK (ce_var 1) (ce_int) (fun _ _ => rfl)) (ce_str) (by rfl))))) (css_one (cs_ret (ce_op oo_add om_add (ce_tup (ca_cons (ce_str) (ca_cons (ce_var 3) (ca_nil)))) (ce_slice C.hK (ce_var 1) (co_some (ce_int)) (co_none))))) (css_nil)) (css_cons (cs_if (ct_cmp (oo_eq C.hu) om_eq (ce_ix C.hu C.hK (ce_var 1) (ce_int) (fun _ _ => rfl)) (ce_str) (by rfl)) (css_one (cs_ret (ce_op oo_add om_add (ce_tup (ca_cons (ce_str) (ca_cons (ce_var 4) (ca_nil)))) (ce_slice C.hK (ce_var 1) (co_some (ce_int)) (co_none))))) (css_nil)) (css_cons (cs_if (ct_cmp (oo_eq C.hu) om_eq (ce_ix C.hu C.hK (ce_var 1) (ce_int) (fun _ _ => rfl)) (ce_str) (by rfl)) (css_one (cs_ret (ce_tup (ca_cons (ce_str) (ca_cons (ce_var 3) (ca_cons (ce_var 6) (ca_cons (ce_ix C.hu C.hK (ce_var 1) (ce_int) (fun _ _ => rfl)) (ca_nil)))))))) (css_nil)) (css_one (cs_ret (ce_tup (ca_cons (ce_ix C.hu C.hK (ce_var 1) (ce_int) (fun _ _ => rfl)) (ca_cons (ce_var 6) (ca_nil)))))))))))))))))))
theorem sc_law_told : FnScope ["_law_event_here", "_law_found", "_law_text", "e", "_law_kin"] ["_law_event_here"] (defScope (top 29)) := ⟨rfl, rfl, rfl, by decide +kernel, rfl, by decide +kernel, by decide +kernel⟩
theorem w_law_told (T : Tx P K mg A) : FnOk P w K mg base (L2.CX P w) 5 A.a_law_told A.d_law_told ["_law_event_here"] (spM K (cl A) 1 m_law_told) := by
  refine fn_ok T.f_law_told sc_law_told rfl rfl fun cdv Ar outer sh H E C => ?_
  unfold b_law_told
  exact css_cons (cs_set 1 C.nd nofx0 (ce_lst (ca_cons (ce_str) (ca_cons (ce_str) (ca_nil))))) (css_cons (cs_tryAs C rfl rfl rfl rfl ⟨rfl, by decide, .inl T.g_BadEvent⟩ nofx0 (ctch_BadEvent_ok T) (fun _ _ _ C => css_cons (cs_set 2 C.nd nofx0 (ce_call (w_event_text T) C (by decide) rfl T.g_event_text T.f_event_text.kp T.b_event_text .nil dfl0 (ca_cons (ce_var 0) (ca_nil)))) (css_one (cs_set 1 C.nd nofx0 (ce_lst (ca_cons (ce_str) (ca_cons (ce_var 2) (ca_nil))))))) (fun a oe cls d pn c hz hf => css_cons (cs_set 4 C.nd (nofxS (by decide) nofx0) (ce_and (ce_isE C.hK rfl T.n_isinstance hz hf (pe_glob (v := .ref A.C_StandError) rfl T.g_StandError rfl) (fun _ h => h) (isx_StandError_ok T) rfl) (ce_one (ce_isE C.hK rfl T.n_isinstance hz hf (pe_bltn (v := .ty "ValueError") rfl T.n_ValueError (by first | boot_by_name | rfl | kernel_rfl) rfl) (fun _ h => h) (isx_ValueError_ok T) rfl)))) (css_one (cs_set 1 C.nd (nofxS (by decide) nofx0) (ce_lst (ca_cons (ce_str) (ca_cons (ce_xf C.hK rfl T.xf_BadEvent T.no_BadEvent hz hf rfl) (ca_cons (ce_var 4) (ca_cons (ce_or (ce_isE C.hK rfl T.n_isinstance hz hf (pe_glob (v := .ref A.C_BadMove) rfl T.g_BadMove rfl) (fun _ h => h) (isx_BadMove_ok T) rfl) (ce_one (ce_isE C.hK rfl T.n_isinstance hz hf (pe_glob (v := .ref A.C_BadText) rfl T.g_BadText rfl) (fun _ h => h) (isx_BadText_ok T) rfl))) (ca_nil)))))))))) (css_one (cs_ret (ce_var 1))))
theorem sc_law : FnScope ["_law_script", "_law_source_here", "_law_near_here", "_law_one", "_law_other", "_law_first", "_law_second", "_law_spoiled_here"] ["_law_script"] (defScope (top 30)) := ⟨rfl, rfl, rfl, by decide +kernel, rfl, by decide +kernel, by decide +kernel⟩
theorem w_law (T : Tx P K mg A) : FnOk P w K mg base (L2.CX P w) 7 A.a_law A.d_law ["_law_script"] (spM K (cl A) 1 m_law) := by
  refine fn_ok T.f_law sc_law rfl rfl fun cdv Ar outer sh H E C => ?_
  unfold b_law
  exact css_cons (cs_set 1 C.nd nofx0 (ce_call (w_law_source T) C (by decide) rfl T.g_law_source T.f_law_source.kp T.b_law_source .nil dfl0 (ca_cons (ce_var 0) (ca_nil)))) (css_cons (cs_set 2 C.nd nofx0 (ce_cmp op_gt om_gt (ce_call (w_law_draw T) C (by decide) rfl T.g_law_draw T.f_law_draw.kp T.b_law_draw .nil dfl0 (ca_cons (ce_var 1) (ca_cons (ce_int) (ca_nil)))) (ce_int) (by rfl))) (css_cons (cs_set 3 C.nd nofx0 (ce_call (w_law_event T) C (by decide) rfl T.g_law_event T.f_law_event.kp T.b_law_event .nil dfl0 (ca_cons (ce_var 1) (ca_nil)))) (css_cons (cs_set 4 C.nd nofx0 (ce_call (w_law_event T) C (by decide) rfl T.g_law_event T.f_law_event.kp T.b_law_event .nil dfl0 (ca_cons (ce_var 1) (ca_nil)))) (css_cons (cs_if (ct_val (ce_var 2)) (css_one (cs_set 4 C.nd nofx0 (ce_call (w_law_near T) C (by decide) rfl T.g_law_near T.f_law_near.kp T.b_law_near .nil dfl0 (ca_cons (ce_var 1) (ca_cons (ce_var 3) (ca_nil)))))) (css_nil)) (css_cons (cs_set 5 C.nd nofx0 (ce_call (w_law_told T) C (by decide) rfl T.g_law_told T.f_law_told.kp T.b_law_told .nil dfl0 (ca_cons (ce_var 3) (ca_nil)))) (css_cons (cs_set 6 C.nd nofx0 (ce_call (w_law_told T) C (by decide) rfl T.g_law_told T.f_law_told.kp T.b_law_told .nil dfl0 (ca_cons (ce_var 4) (ca_nil)))) (css_cons (cs_if (PW.pt (cw_or (ct_cmp (oo_ne C.hu) om_ne (ce_var 5) (ce_lst (ca_cons (ce_str) (ca_cons (ce_call (w_law_due T) C (by decide) rfl T.g_law_due T.f_law_due.kp T.b_law_due .nil dfl0 (ca_cons (ce_var 3) (ca_nil))) (ca_nil)))) (by rfl)) (cw_or1 (ct_cmp (oo_ne C.hu) om_ne (ce_var 6) (ce_lst (ca_cons (ce_str) (ca_cons (ce_call (w_law_due T) C (by decide) rfl T.g_law_due T.f_law_due.kp T.b_law_due .nil dfl0 (ca_cons (ce_var 4) (ca_nil))) (ca_nil)))) (by rfl))))) (css_one (cs_ret (ce_bl))) (css_nil)) (css_cons (cs_if (ct_cmp (oo_ne C.hu) om_ne (ce_cmp (oo_eq C.hu) om_eq (ce_ix C.hu C.hK (ce_var 5) (ce_int) (fun _ _ => rfl)) (ce_ix C.hu C.hK (ce_var 6) (ce_int) (fun _ _ => rfl)) (by rfl)) (ce_cmp (oo_eq C.hu) om_eq (ce_var 3) (ce_var 4) (by rfl)) (by rfl)) (css_one (cs_ret (ce_bl))) (css_nil)) (css_cons (cs_set 7 C.nd nofx0 (ce_call (w_law_spoiled T) C (by decide) rfl T.g_law_spoiled T.f_law_spoiled.kp T.b_law_spoiled .nil dfl0 (ca_cons (ce_var 1) (ca_cons (ce_var 3) (ca_nil))))) (css_cons (cs_if (ct_cmp (oo_ne C.hu) om_ne (ce_call (w_law_told T) C (by decide) rfl T.g_law_told T.f_law_told.kp T.b_law_told .nil dfl0 (ca_cons (ce_var 7) (ca_nil))) (ce_lst (ca_cons (ce_str) (ca_cons (ce_var 7) (ca_cons (ce_bl) (ca_cons (ce_bl) (ca_nil)))))) (by rfl)) (css_one (cs_ret (ce_bl))) (css_nil)) (css_one (cs_ret (ce_cmp (oo_eq C.hu) om_eq (ce_call (w_law_told T) C (by decide) rfl T.g_law_told T.f_law_told.kp T.b_law_told .nil dfl0 (ca_cons (ce_var 3) (ca_nil))) (ce_var 5) (by rfl))))))))))))))
end
end Mkk85
namespace Mkk85
open PySem Mi
def lowB (c : Nat) : Bool := !(Builtin.Str.occurrences ("abcdefghijklmnopqrstuvwxyz" : Str) ⟨#[c]⟩ 0 ("abcdefghijklmnopqrstuvwxyz" : Str).length 1).isEmpty
def nameB : D → Bool
  | .str x => decide (1 ≤ x.length) && decide (x.length ≤ 8) && x.cps.toList.all lowB
  | _ => false
def countB : D → Bool
  | .int i => decide (0 ≤ i) && decide (i ≤ 999999)
  | _ => false
def Leaf (S : So) (d : D) : Prop := (∃ t, tyO S d = some t) ∧ ∀ x, d = .str x → x.length ≤ lim
theorem ref_ty {S : So} {n : Nat} {t : Ty} (h : tyO S (.ref n) = some t) : t = .lst ∨ t = .dct := by
  unfold tyO at h
  simp only at h
  split at h <;> first | (cases h; exact .inl rfl) | (cases h; exact .inr rfl) | cases h
theorem count_eq {d : D} {S : So} (h : Leaf S d) : Wp (m_is_count [d] S) (fun r S' => S' = S ∧ r = .bl (countB d)) := by
  unfold m_is_count b_is_count
  obtain ⟨⟨t, ht⟩, _⟩ := h
  cases d with
  | int i =>
    walk_at "go"
    refine ⟨fun h0 => ?_, fun h0 => ?_⟩
    · walk_at "go"
      simp only [countB, h0, Bool.true_and]
    · refine ⟨rfl, ?_⟩
      simp only [countB, h0, Bool.false_and]
  | ref n =>
    walk_at "go"
    refine ⟨t, ht, ?_⟩
    rcases ref_ty ht with rfl | rfl
    · walk_at "go"
      rfl
    · walk_at "go"
      rfl
  | _ =>
    walk_at "go"
    rfl
theorem len_str {S : So} {x : Str} (h : x.length ≤ lim) : lenD [.str x] S = .ok (.int x.length) S := by
  unfold lenD lenO vw
  simp only [if_pos h]
theorem name_eq {d : D} {S : So} (h : Leaf S d) : Wp (m_is_name [d] S) (fun r S' => S' = S ∧ r = .bl (nameB d)) := by
  unfold m_is_name b_is_name
  obtain ⟨⟨t, ht⟩, hl⟩ := h
  cases d with
  | str x =>
    have hx := hl x rfl
    walk_at "go"
    refine Wp.opL (len_str hx) ?_
    walk_at "go"
    refine ⟨fun h0 => ?_, fun h0 => ?_⟩
    · have h0 : 1 ≤ x.length := by
        have := of_decide_eq_true h0
        omega
      walk_at "go"
      refine ⟨fun h1 => ?_, fun h1 => ?_⟩
      · have h1 : ¬ x.length ≤ 8 := by
          have : decide ((x.length : Int) ≤ 8) = false := by simpa using h1
          have := of_decide_eq_false this
          omega
        walk_at "go"
        simp [nameB, h0, h1]
      · have h1 : x.length ≤ 8 := by
          have : decide ((x.length : Int) ≤ 8) = true := by simpa using h1
          have := of_decide_eq_true this
          omega
        walk_at "go"
        refine Wp.forV ?_
        walk_at "go"
        refine .inr (.inl ⟨x, rfl, chD x, rfl, fun i ρ S' => S' = S ∧ (x.cps.toList.take i).all lowB = true ∧ ∃ o, ρ = [some (.str x), o], ?_, ?_, ?_⟩)
        · exact ⟨rfl, by simp, _, rfl⟩
        · rintro i d ρ S' hd ⟨rfl, ha, o, rfl⟩
          refine ⟨_, rfl, ?_⟩
          unfold chD at hd
          rw [List.getElem?_map] at hd
          cases hc : x.cps.toList[i]? with
          | none => rw [hc] at hd; cases hd
          | some c =>
            rw [hc] at hd
            cases hd
            walk_at "go"
            refine ⟨fun h2 => ?_, fun h2 => ?_⟩
            · have h2 : lowB c = false := by simpa [lowB] using h2
              walk_at "go"
              have hall : x.cps.toList.all lowB = false := by
                rw [List.all_eq_false]
                exact ⟨c, List.mem_of_getElem? hc, by simp [h2]⟩
              simp only [nameB, hall, Bool.and_false]
            · have h2 : lowB c = true := by simpa [lowB] using h2
              walk_at "go"
              refine ⟨?_, _, rfl⟩
              rw [List.take_add_one, hc]
              simp [List.all_append, ha, h2]
        · rintro ρ S' ⟨rfl, ha, o, rfl⟩
          walk_at "go"
          have ha : x.cps.toList.all lowB = true := by
            have hlen : (chD x).length = x.cps.toList.length := by simp [chD]
            rw [hlen, List.take_length] at ha
            exact ha
          simp [nameB, h0, h1, ha]
    · have h0 : ¬ 1 ≤ x.length := by
        have := of_decide_eq_false h0
        omega
      walk_at "go"
      simp [nameB, h0]
  | ref n =>
    walk_at "go"
    refine ⟨t, ht, ?_⟩
    rcases ref_ty ht with rfl | rfl
    · walk_at "go"
      rfl
    · walk_at "go"
      rfl
  | _ =>
    walk_at "go"
    rfl
end Mkk85
namespace Mkk85
open PySem Mi
def shownB : D → Bool
  | .tup (.str x :: ys) => if x = "word" then (match ys with
      | [z] => nameB z
      | _ => false) else if x = "other" then (match ys with
      | [z] => countB z
      | _ => false) else (decide (x = "none") || decide (x = "me")) && ys.isEmpty
  | _ => false
def Lf1 (S : So) (d : D) : Prop := Leaf S d ∧ ∀ ds, d = .tup ds → ∀ e ∈ ds, Leaf S e
theorem len_ne {l : List D} {k : Int} (h : k < (l.length : Nat)) : (((l.length : Nat) : Int) == k) = false := by
  have : ¬ ((l.length : Nat) : Int) = k := by omega
  simpa using this
theorem len3 {a b c : D} {r : List D} : ((((a :: b :: c :: r).length : Nat) : Int) == 2) = false := len_ne (by simp only [List.length_cons]; omega)
theorem len2 {a b : D} {r : List D} : ((((a :: b :: r).length : Nat) : Int) == 1) = false := len_ne (by simp only [List.length_cons]; omega)
theorem len5 {a b c d e : D} {r : List D} : ((((a :: b :: c :: d :: e :: r).length : Nat) : Int) == 4) = false := len_ne (by simp only [List.length_cons]; omega)
theorem beq_sym (x : Str) {y : Str} : (y == x) = decide (x = y) := by
  by_cases h : x = y
  · subst h
    simp
  · have h' : ¬ y = x := fun z => h z.symm
    simp [h, h']
theorem beq_ne {x y : Str} (h : ¬ x = y) : (x == y) = false := by simpa using h
theorem shown_eq {d : D} {S : So} (h : Lf1 S d) : Wp (m_is_shown [d] S) (fun r S' => S' = S ∧ r = .bl (shownB d)) := by
  unfold m_is_shown b_is_shown
  obtain ⟨⟨⟨t, ht⟩, _⟩, hs⟩ := h
  cases d with
  | ref n =>
    walk_at "go"
    refine ⟨t, ht, ?_⟩
    rcases ref_ty ht with rfl | rfl
    · walk_at "go"
      rfl
    · walk_at "go"
      rfl
  | tup ds =>
    cases ds with
    | nil =>
      walk_at "go"
      rfl
    | cons y ys =>
      obtain ⟨⟨ty, hty⟩, hyl⟩ := hs _ rfl y List.mem_cons_self
      cases y with
      | str x =>
        walk_at "go"
        by_cases h1 : x = "word"
        · subst h1
          walk_at "go"
          rcases ys with _ | ⟨z, _ | ⟨w, r⟩⟩
          · walk_at "go"
            rfl
          · have hz := hs _ rfl z (by simp)
            walk_at "go"
            refine (name_eq hz).mono ?_
            rintro r S' ⟨rfl, rfl⟩
            walk_at "go"
            rfl
          · walk_at "go"
            rfl
        · refine Wp.bf (beq_ne h1) ?_
          walk_at "go"
          by_cases h2 : x = "other"
          · subst h2
            walk_at "go"
            rcases ys with _ | ⟨z, _ | ⟨w, r⟩⟩
            · walk_at "go"
              rfl
            · have hz := hs _ rfl z (by simp)
              walk_at "go"
              refine (count_eq hz).mono ?_
              rintro r S' ⟨rfl, rfl⟩
              walk_at "go"
              rfl
            · walk_at "go"
              rfl
          · refine Wp.bf (beq_ne h2) ?_
            walk_at "go"
            have hb : ((("none" : Str) == x) || ((("me" : Str) == x) || false)) = (decide (x = "none") || decide (x = "me")) := by
              rw [Bool.or_false, beq_sym x, beq_sym x]
            refine ⟨fun h3 => ?_, fun h3 => ?_⟩
            · rw [hb] at h3
              rcases ys with _ | ⟨z, r⟩
              · walk_at "go"
                simp [shownB, h1, h2, h3]
              · walk_at "go"
                simp only [shownB, if_neg h1, if_neg h2, List.isEmpty_cons, Bool.and_false]
                exact congrArg D.bl len2
            · rw [hb] at h3
              walk_at "go"
              simp only [shownB, if_neg h1, if_neg h2, h3, Bool.false_and]
      | ref n =>
        walk_at "go"
        refine ⟨ty, hty, ?_⟩
        rcases ref_ty hty with rfl | rfl
        · walk_at "go"
          rfl
        · walk_at "go"
          rfl
      | _ =>
        walk_at "go"
        rfl
  | _ =>
    walk_at "go"
    rfl
end Mkk85
namespace Mkk85
open PySem Mi
def eventB : D → Bool
  | .tup (.str x :: ys) => if x = "gives" ∨ x = "throws" then (match ys with
      | [z] => shownB z
      | _ => false) else if x = "calls" ∨ x = "asks" then (match ys with
      | [a, b, c] => if x = "calls" then countB a && (shownB b && shownB c) else nameB a && (shownB b && shownB c)
      | _ => false) else false
  | _ => false
def Lf2 (S : So) (d : D) : Prop := Leaf S d ∧ ∀ ds, d = .tup ds → ∀ e ∈ ds, Lf1 S e
theorem in_two {S : So} {x a b : Str} : inD (.str x) (.tup [.str a, .str b]) S = .ok (.bl (decide (x = a ∨ x = b))) S := by
  show Rs.ok (D.bl ((a == x) || ((b == x) || false))) S = _
  rw [Bool.or_false, beq_sym x, beq_sym x, Bool.decide_or]
theorem notIn_two {S : So} {x a b : Str} : notInD (.str x) (.tup [.str a, .str b]) S = .ok (.bl (!decide (x = a ∨ x = b))) S := by
  show Rs.ok (D.bl (!((a == x) || ((b == x) || false)))) S = _
  rw [Bool.or_false, beq_sym x, beq_sym x, Bool.decide_or]
theorem event_eq {d : D} {S : So} (h : Lf2 S d) : Wp (m_is_event [d] S) (fun r S' => S' = S ∧ r = .bl (eventB d)) := by
  unfold m_is_event b_is_event
  obtain ⟨⟨⟨t, ht⟩, _⟩, hs⟩ := h
  cases d with
  | ref n =>
    walk_at "go"
    refine ⟨t, ht, ?_⟩
    rcases ref_ty ht with rfl | rfl
    · walk_at "go"
      rfl
    · walk_at "go"
      rfl
  | tup ds =>
    cases ds with
    | nil =>
      walk_at "go"
      rfl
    | cons y ys =>
      obtain ⟨⟨⟨ty, hty⟩, hyl⟩, _⟩ := hs _ rfl y List.mem_cons_self
      cases y with
      | str x =>
        walk_at "go"
        have hb1 : ((("gives" : Str) == x) || ((("throws" : Str) == x) || false)) = decide (x = "gives" ∨ x = "throws") := by
          rw [Bool.or_false, beq_sym x, beq_sym x, Bool.decide_or]
        have hb2 : ((("calls" : Str) == x) || ((("asks" : Str) == x) || false)) = decide (x = "calls" ∨ x = "asks") := by
          rw [Bool.or_false, beq_sym x, beq_sym x, Bool.decide_or]
        by_cases h1 : x = "gives" ∨ x = "throws"
        · refine Wp.bt (hb1.trans (decide_eq_true h1)) ?_
          rcases ys with _ | ⟨z, _ | ⟨w, r⟩⟩
          · walk_at "go"
            simp only [eventB, if_pos h1]
          · have hz := hs _ rfl z (by simp)
            walk_at "go"
            refine (shown_eq hz).mono ?_
            rintro r S' ⟨rfl, rfl⟩
            walk_at "go"
            simp only [eventB, if_pos h1]
          · walk_at "go"
            simp only [eventB, if_pos h1]
        · refine Wp.bf (hb1.trans (decide_eq_false h1)) ?_
          walk_at "go"
          by_cases h2 : x = "calls" ∨ x = "asks"
          · refine Wp.bf (b := !_) (by rw [hb2, decide_eq_true h2]; rfl) ?_
            walk_at "go"
            rcases ys with _ | ⟨z, _ | ⟨w, _ | ⟨u, _ | ⟨v, r⟩⟩⟩⟩
            · walk_at "go"
              simp only [eventB, if_neg h1, if_pos h2]
            · walk_at "go"
              simp only [eventB, if_neg h1, if_pos h2]
            · walk_at "go"
              simp only [eventB, if_neg h1, if_pos h2]
            · have hz := (hs _ rfl z (by simp)).1
              have hw := hs _ rfl w (by simp)
              have hu := hs _ rfl u (by simp)
              walk_at "go"
              by_cases h3 : x = "calls"
              · refine Wp.bt (b := _ == _) (by rw [h3]; rfl) ?_
                walk_at "go"
                refine (count_eq hz).mono ?_
                rintro r S' ⟨rfl, rfl⟩
                walk_at "go"
                refine ⟨fun h4 => ?_, fun h4 => ?_⟩
                · have h4 : countB z = false := by simpa using h4
                  walk_at "go"
                  simp only [eventB, if_neg h1, if_pos h2, if_pos h3, h4, Bool.true_and, Bool.false_and, Bool.and_false]
                · have h6 : (x == ("asks" : Str)) = false := by rw [h3]; rfl
                  walk_at "go"
                  refine Wp.bf h6 ?_
                  have h4 : countB z = true := by simpa using h4
                  walk_at "go"
                  refine (shown_eq hw).mono ?_
                  rintro r S1 ⟨rfl, rfl⟩
                  walk_at "go"
                  refine ⟨fun h5 => ?_, fun h5 => ?_⟩
                  · walk_at "go"
                    refine (shown_eq hu).mono ?_
                    rintro r S2 ⟨rfl, rfl⟩
                    walk_at "go"
                    simp only [eventB, if_neg h1, if_pos h2, if_pos h3, h4, h5, Bool.true_and, Bool.false_and, Bool.and_false]
                  · walk_at "go"
                    simp only [eventB, if_neg h1, if_pos h2, if_pos h3, h4, h5, Bool.true_and, Bool.false_and, Bool.and_false]
              · have h6 : x = "asks" := by
                  rcases h2 with z | z
                  · exact absurd z h3
                  · exact z
                refine Wp.bf (beq_ne h3) ?_
                walk_at "go"
                refine Wp.bt (b := _ == _) (by rw [h6]; rfl) ?_
                walk_at "go"
                refine (name_eq hz).mono ?_
                rintro r S' ⟨rfl, rfl⟩
                walk_at "go"
                refine ⟨fun h4 => ?_, fun h4 => ?_⟩
                · have h4 : nameB z = false := by simpa using h4
                  walk_at "go"
                  simp only [eventB, if_neg h1, if_pos h2, if_neg h3, h4, Bool.true_and, Bool.false_and, Bool.and_false]
                · skip
                  have h4 : nameB z = true := by simpa using h4
                  walk_at "go"
                  refine (shown_eq hw).mono ?_
                  rintro r S1 ⟨rfl, rfl⟩
                  walk_at "go"
                  refine ⟨fun h5 => ?_, fun h5 => ?_⟩
                  · walk_at "go"
                    refine (shown_eq hu).mono ?_
                    rintro r S2 ⟨rfl, rfl⟩
                    walk_at "go"
                    simp only [eventB, if_neg h1, if_pos h2, if_neg h3, h4, h5, Bool.true_and, Bool.false_and, Bool.and_false]
                  · walk_at "go"
                    simp only [eventB, if_neg h1, if_pos h2, if_neg h3, h4, h5, Bool.true_and, Bool.false_and, Bool.and_false]
            · walk_at "go"
              simp only [eventB, if_neg h1, if_pos h2]
          · refine Wp.bt (b := !_) (by rw [hb2, decide_eq_false h2]; rfl) ?_
            walk_at "go"
            simp only [eventB, if_neg h1, if_neg h2]
      | ref n =>
        walk_at "go"
        refine ⟨ty, hty, ?_⟩
        rcases ref_ty hty with rfl | rfl
        · walk_at "go"
          rfl
        · walk_at "go"
          rfl
      | _ =>
        walk_at "go"
        rfl
  | _ =>
    walk_at "go"
    rfl
end Mkk85
namespace Mkk85
open PySem Mi
inductive Vl where
  | none | me | oth (n : Int) | wrd (w : Str)
  deriving DecidableEq
inductive Ev where
  | gives (v : Vl) | throws (v : Vl) | calls (n : Int) (v u : Vl) | asks (w : Str) (v u : Vl)
  deriving DecidableEq
def Vl.toD : Vl → D
  | .none => .tup [.str "none"]
  | .me => .tup [.str "me"]
  | .oth n => .tup [.str "other", .int n]
  | .wrd w => .tup [.str "word", .str w]
def Ev.toD : Ev → D
  | .gives v => .tup [.str "gives", v.toD]
  | .throws v => .tup [.str "throws", v.toD]
  | .calls n v u => .tup [.str "calls", .int n, v.toD, u.toD]
  | .asks w v u => .tup [.str "asks", .str w, v.toD, u.toD]
def okN (n : Int) : Prop := 0 ≤ n ∧ n ≤ 999999
def okW (w : Str) : Prop := nameB (.str w) = true ∧ 32 ∉ w.cps.toList
def Vl.Ok : Vl → Prop
  | .oth n => okN n
  | .wrd w => okW w
  | _ => True
def Ev.Ok : Ev → Prop
  | .gives v => v.Ok
  | .throws v => v.Ok
  | .calls n v u => okN n ∧ v.Ok ∧ u.Ok
  | .asks w v u => okW w ∧ v.Ok ∧ u.Ok
def nt (n : Int) : Str := ((toString n : String) : Str)
def vtext : Vl → Str
  | .none => "none"
  | .me => "me"
  | .oth n => (Str.empty ++ "other ") ++ nt n
  | .wrd w => "'" ++ w
def etext : Ev → Str
  | .gives v => ("gives" ++ (" " : Str)) ++ vtext v
  | .throws v => ("throws" ++ (" " : Str)) ++ vtext v
  | .calls n v u => ((((((Str.empty ++ "calls") ++ " ") ++ nt n) ++ " ") ++ vtext v) ++ " ") ++ vtext u
  | .asks w v u => ((((((Str.empty ++ "asks") ++ " ") ++ w) ++ " ") ++ vtext v) ++ " ") ++ vtext u
theorem okW.len {w : Str} (h : okW w) : 1 ≤ w.length ∧ w.length ≤ 8 := by
  have := h.1
  simp only [nameB, Bool.and_eq_true, decide_eq_true_eq] at this
  exact this.1
theorem okN.log {n : Int} (h : okN n) : n.natAbs.log2 < 1920 := log_of h.1 (by have := h.2; omega)
theorem okN.len {n : Int} (h : okN n) : (nt n).length ≤ 10 := PySem.W.KT.len_num h.1 (by have := h.2; omega)
theorem vlen {v : Vl} (h : v.Ok) : (vtext v).length ≤ 20 := by
  cases v with
  | none => decide
  | me => decide
  | oth n =>
    have := okN.len h
    show ((Str.empty ++ "other ") ++ nt n).length ≤ 20
    rw [Str.length_append]
    have : (Str.empty ++ ("other " : Str)).length = 6 := by decide
    omega
  | wrd w =>
    have := (okW.len h).2
    show ("'" ++ w).length ≤ 20
    rw [Str.length_append]
    have : ("'" : Str).length = 1 := by decide
    omega
theorem lim_big : 1000 ≤ lim := by decide
theorem shown_text_eq {v : Vl} {S : So} (h : v.Ok) : Wp (m_shown_text [v.toD] S) (fun r S' => S' = S ∧ r = .str (vtext v)) := by
  unfold m_shown_text b_shown_text
  cases v with
  | none =>
    unfold Vl.toD
    walk_at "go"
    rfl
  | me =>
    unfold Vl.toD
    walk_at "go"
    rfl
  | oth n =>
    unfold Vl.toD
    walk_at "go"
    have := okN.len h
    have := lim_big
    refine Wp.op1 (f := fmtD) (fmt_int (okN.log h)) ?_
    walk_at "go"
    refine ⟨?_, ?_⟩
    · rw [Str.length_append]
      have : (Str.empty ++ ("other " : Str)).length = 6 := by decide
      show (Str.empty ++ ("other " : Str)).length + (nt n).length ≤ lim
      omega
    · walk_at "go"
      rfl
  | wrd w =>
    unfold Vl.toD
    walk_at "go"
    have := (okW.len h).2
    have := lim_big
    refine Wp.op2 (f := addD) (add_str (by have : ("'" : Str).length = 1 := by decide
                                           omega)) ?_
    walk_at "go"
    rfl
end Mkk85
namespace Mkk85
open PySem Mi
theorem leaf_str {S : So} {x : Str} (h : x.length ≤ 1000) : Leaf S (.str x) := ⟨⟨_, rfl⟩, fun y e => by
  cases e
  exact Nat.le_trans h lim_big⟩
theorem leaf_int {S : So} {n : Int} : Leaf S (.int n) := ⟨⟨_, rfl⟩, fun y e => by cases e⟩
theorem leaf_bl {S : So} {n : Bool} : Leaf S (.bl n) := ⟨⟨_, rfl⟩, fun y e => by cases e⟩
theorem leaf_non {S : So} : Leaf S .non := ⟨⟨_, rfl⟩, fun y e => by cases e⟩
theorem leaf_tup {S : So} {ds : List D} : Leaf S (.tup ds) := ⟨⟨_, rfl⟩, fun y e => by cases e⟩
theorem lf1_of {S : So} {d : D} (h : Leaf S d) (hn : ∀ ds, d ≠ .tup ds) : Lf1 S d := ⟨h, fun ds e => absurd e (hn ds)⟩
theorem lf1_tup {S : So} {ds : List D} (h : ∀ e ∈ ds, Leaf S e) : Lf1 S (.tup ds) := ⟨leaf_tup, fun ds' e => by
  cases e
  exact h⟩
theorem lf2_tup {S : So} {ds : List D} (h : ∀ e ∈ ds, Lf1 S e) : Lf2 S (.tup ds) := ⟨leaf_tup, fun ds' e => by
  cases e
  exact h⟩
theorem lf2_of {S : So} {d : D} (h : Leaf S d) (hn : ∀ ds, d ≠ .tup ds) : Lf2 S d := ⟨h, fun ds e => absurd e (hn ds)⟩
theorem all2 {P : D → Prop} {a b : D} (h1 : P a) (h2 : P b) : ∀ e ∈ [a, b], P e := by
  intro e h
  rcases List.mem_cons.mp h with rfl | h
  · exact h1
  · rcases List.mem_cons.mp h with rfl | h
    · exact h2
    · cases h
theorem all1 {P : D → Prop} {a : D} (h1 : P a) : ∀ e ∈ [a], P e := by
  intro e h
  rcases List.mem_cons.mp h with rfl | h
  · exact h1
  · cases h
theorem all4 {P : D → Prop} {a b c d : D} (h1 : P a) (h2 : P b) (h3 : P c) (h4 : P d) : ∀ e ∈ [a, b, c, d], P e := by
  intro e h
  rcases List.mem_cons.mp h with rfl | h
  · exact h1
  · rcases List.mem_cons.mp h with rfl | h
    · exact h2
    · rcases List.mem_cons.mp h with rfl | h
      · exact h3
      · rcases List.mem_cons.mp h with rfl | h
        · exact h4
        · cases h
theorem len_small {x : String} (h : ((x : Str)).length ≤ 1000 := by decide) : ((x : Str)).length ≤ 1000 := h
theorem Vl.lf {S : So} {v : Vl} (h : v.Ok) : Lf1 S v.toD := by
  cases v with
  | none => exact lf1_tup (all1 (leaf_str (by decide)))
  | me => exact lf1_tup (all1 (leaf_str (by decide)))
  | oth n => exact lf1_tup (all2 (leaf_str (by decide)) leaf_int)
  | wrd w => exact lf1_tup (all2 (leaf_str (by decide)) (leaf_str (Nat.le_trans (okW.len h).2 (by decide))))
theorem Ev.lf {S : So} {e : Ev} (h : e.Ok) : Lf2 S e.toD := by
  cases e with
  | gives v => exact lf2_tup (all2 (lf1_of (leaf_str (by decide)) (fun ds z => by cases z)) (Vl.lf h))
  | throws v => exact lf2_tup (all2 (lf1_of (leaf_str (by decide)) (fun ds z => by cases z)) (Vl.lf h))
  | calls n v u => exact lf2_tup (all4 (lf1_of (leaf_str (by decide)) (fun ds z => by cases z)) (lf1_of leaf_int (fun ds z => by cases z)) (Vl.lf h.2.1) (Vl.lf h.2.2))
  | asks w v u => exact lf2_tup (all4 (lf1_of (leaf_str (by decide)) (fun ds z => by cases z)) (lf1_of (leaf_str (Nat.le_trans (okW.len h.1).2 (by decide))) (fun ds z => by cases z)) (Vl.lf h.2.1) (Vl.lf h.2.2))
theorem eb_gives {z : D} : eventB (.tup [.str "gives", z]) = shownB z := rfl
theorem eb_throws {z : D} : eventB (.tup [.str "throws", z]) = shownB z := rfl
theorem eb_calls {z v u : D} : eventB (.tup [.str "calls", z, v, u]) = (countB z && (shownB v && shownB u)) := rfl
theorem eb_asks {z v u : D} : eventB (.tup [.str "asks", z, v, u]) = (nameB z && (shownB v && shownB u)) := rfl
theorem sb_word {z : D} : shownB (.tup [.str "word", z]) = nameB z := rfl
theorem sb_other {z : D} : shownB (.tup [.str "other", z]) = countB z := rfl
theorem cb_ok {n : Int} (h : okN n) : countB (.int n) = true := by
  simp only [countB, decide_eq_true h.1, decide_eq_true h.2, Bool.and_self]
theorem Vl.shown {v : Vl} (h : v.Ok) : shownB v.toD = true := by
  cases v with
  | none => rfl
  | me => rfl
  | oth n => exact sb_other.trans (cb_ok h)
  | wrd w => exact sb_word.trans h.1
theorem Ev.event {e : Ev} (h : e.Ok) : eventB e.toD = true := by
  cases e with
  | gives v => exact eb_gives.trans (Vl.shown h)
  | throws v => exact eb_throws.trans (Vl.shown h)
  | calls n v u =>
    obtain ⟨h1, h2, h3⟩ := h
    refine eb_calls.trans ?_
    rw [cb_ok h1, Vl.shown h2, Vl.shown h3]
    rfl
  | asks w v u =>
    obtain ⟨h1, h2, h3⟩ := h
    refine eb_asks.trans ?_
    rw [h1.1, Vl.shown h2, Vl.shown h3]
    rfl
theorem lim_le {n : Nat} (h : n ≤ 1000) : n ≤ lim := Nat.le_trans h lim_big
theorem la {a b : Str} {m k n : Nat} (h1 : a.length ≤ m) (h2 : b.length ≤ k) (h : m + k ≤ n) : (a ++ b).length ≤ n := by
  rw [Str.length_append]
  omega
theorem event_text_eq {e : Ev} {S : So} (h : e.Ok) : Wp (m_event_text [e.toD] S) (fun r S' => S' = S ∧ r = .str (etext e)) := by
  unfold m_event_text b_event_text
  have hb := Ev.event h
  have hl : Lf2 S e.toD := Ev.lf h
  walk_at "go"
  refine (event_eq hl).mono ?_
  rintro r S' ⟨rfl, rfl⟩
  rw [hb]
  walk_at "go"
  cases e with
  | gives v =>
    unfold Ev.toD
    have hv := vlen (v := v) h
    walk_at "go"
    refine (shown_text_eq (v := v) h).mono ?_
    rintro r S1 ⟨rfl, rfl⟩
    refine Wp.op2 (f := addD) (add_str (lim_le (by have : (("gives" : Str) ++ (" " : Str)).length = 6 := by decide
                                                   omega))) ?_
    walk_at "go"
    rfl
  | throws v =>
    unfold Ev.toD
    have hv := vlen (v := v) h
    walk_at "go"
    refine (shown_text_eq (v := v) h).mono ?_
    rintro r S1 ⟨rfl, rfl⟩
    refine Wp.op2 (f := addD) (add_str (lim_le (by have : (("throws" : Str) ++ (" " : Str)).length = 7 := by decide
                                                   omega))) ?_
    walk_at "go"
    rfl
  | calls n v u =>
    unfold Ev.toD
    obtain ⟨h1, h2, h3⟩ := h
    have L1 : (Str.empty ++ ("calls" : Str) ++ (" " : Str)).length ≤ 6 := by decide
    have L2 : (nt n).length ≤ 10 := okN.len h1
    have L3 := vlen h2
    have L4 := vlen h3
    have M1 := la L1 L2 (n := 16) (by omega)
    have M2 := la (b := (" " : Str)) (k := 1) M1 (by decide) (n := 17) (by omega)
    have M3 := la M2 L3 (n := 37) (by omega)
    have M4 := la (b := (" " : Str)) (k := 1) M3 (by decide) (n := 38) (by omega)
    have M5 := la M4 L4 (n := 58) (by omega)
    walk_at "go"
    refine Wp.op1 (f := fmtD) (fmt_int (okN.log h1)) ?_
    walk_at "go"
    refine ⟨lim_le (Nat.le_trans M1 (by omega)), ?_⟩
    walk_at "go"
    refine ⟨lim_le (Nat.le_trans M2 (by omega)), ?_⟩
    walk_at "go"
    refine (shown_text_eq h2).mono ?_
    rintro r S1 ⟨rfl, rfl⟩
    refine Wp.op1 (f := fmtD) (fmt_str (lim_le (Nat.le_trans L3 (by omega)))) ?_
    walk_at "go"
    refine ⟨lim_le (Nat.le_trans M3 (by omega)), ?_⟩
    walk_at "go"
    refine ⟨lim_le (Nat.le_trans M4 (by omega)), ?_⟩
    walk_at "go"
    refine (shown_text_eq h3).mono ?_
    rintro r S1 ⟨rfl, rfl⟩
    refine Wp.op1 (f := fmtD) (fmt_str (lim_le (Nat.le_trans L4 (by omega)))) ?_
    walk_at "go"
    refine ⟨lim_le (Nat.le_trans M5 (by omega)), ?_⟩
    walk_at "go"
    rfl
  | asks w v u =>
    unfold Ev.toD
    obtain ⟨h1, h2, h3⟩ := h
    have L1 : (Str.empty ++ ("asks" : Str) ++ (" " : Str)).length ≤ 6 := by decide
    have L2 : (w).length ≤ 10 := Nat.le_trans (okW.len h1).2 (by omega)
    have L3 := vlen h2
    have L4 := vlen h3
    have M1 := la L1 L2 (n := 16) (by omega)
    have M2 := la (b := (" " : Str)) (k := 1) M1 (by decide) (n := 17) (by omega)
    have M3 := la M2 L3 (n := 37) (by omega)
    have M4 := la (b := (" " : Str)) (k := 1) M3 (by decide) (n := 38) (by omega)
    have M5 := la M4 L4 (n := 58) (by omega)
    walk_at "go"
    refine Wp.op1 (f := fmtD) (fmt_str (lim_le (Nat.le_trans L2 (by omega)))) ?_
    walk_at "go"
    refine ⟨lim_le (Nat.le_trans M1 (by omega)), ?_⟩
    walk_at "go"
    refine ⟨lim_le (Nat.le_trans M2 (by omega)), ?_⟩
    walk_at "go"
    refine (shown_text_eq h2).mono ?_
    rintro r S1 ⟨rfl, rfl⟩
    refine Wp.op1 (f := fmtD) (fmt_str (lim_le (Nat.le_trans L3 (by omega)))) ?_
    walk_at "go"
    refine ⟨lim_le (Nat.le_trans M3 (by omega)), ?_⟩
    walk_at "go"
    refine ⟨lim_le (Nat.le_trans M4 (by omega)), ?_⟩
    walk_at "go"
    refine (shown_text_eq h3).mono ?_
    rintro r S1 ⟨rfl, rfl⟩
    refine Wp.op1 (f := fmtD) (fmt_str (lim_le (Nat.le_trans L4 (by omega)))) ?_
    walk_at "go"
    refine ⟨lim_le (Nat.le_trans M5 (by omega)), ?_⟩
    walk_at "go"
    rfl
end Mkk85
namespace Mkk85
open PySem Mi
theorem event_text_bad {d : D} {S : So} (hl : Lf2 S d) (hb : eventB d = false) : m_event_text [d] S = .ex ⟨"BadEvent", [("event", d)]⟩ [some d] S := by
  obtain ⟨r, S', e, rfl, rfl⟩ := (event_eq hl).get
  rw [hb] at e
  unfold m_event_text b_event_text mFn
  show Rs.bind (Rs.bind (Rs.bind (Rs.bind (Rs.bind (match m_is_event [d] S' with
      | .ok d S2 => .ok d S2
      | .ex c _ S2 => .ex c [some d] S2
      | .stuck => .stuck) asB) fun c S1 => .ok (!c) S1) _) _) _ = _
  rw [e]
  rfl
def Told (S : So) (l : List D) (r : D) (S' : So) : Prop := ∃ T n, S' = S ++ T ∧ r = .ref n ∧ S'[n]? = some (.lst l)
theorem told_ok {e : Ev} {S : So} (h : e.Ok) : Wp (m_law_told [e.toD] S) (Told S [.str "told", .str (etext e)]) := by
  unfold m_law_told b_law_told
  walk_at "go"
  refine Wp.try_ok ?_
  walk_at "go"
  refine (event_text_eq h).mono ?_
  rintro r S1 ⟨rfl, rfl⟩
  walk_at "go"
  exact ⟨_, _, by rw [List.append_assoc], rfl, last_at⟩
theorem told_bad {d : D} {S : So} (hl : ∀ T, Lf2 (S ++ T) d) (hb : eventB d = false) : Wp (m_law_told [d] S) (Told S [.str "refused", d, .bl true, .bl false]) := by
  unfold m_law_told b_law_told
  walk_at "go"
  refine Wp.try_ex (c := ⟨"BadEvent", [("event", d)]⟩) (ρ1 := [some d, some (.ref S.length), none, none, none]) (S1 := S ++ [.lst [.str "told", .str ""]]) ?_ rfl (Nat.le_of_ble_eq_true rfl) ?_
  · have e := event_text_bad (hl [.lst [.str "told", .str ""]]) hb
    show Rs.bind (Rs.bind (match m_event_text [d] (S ++ [.lst [.str "told", .str ""]]) with
      | .ok d S2 => .ok d S2
      | .ex c _ S2 => .ex c [some d, some (.ref S.length), none, none, none] S2
      | .stuck => .stuck) _) _ = _
    rw [e]
    rfl
  · walk_at "go"
    exact ⟨_, _, by rw [List.append_assoc], rfl, last_at⟩
end Mkk85
namespace Mkk85
open PySem Mi
def dueBody : MS := (mIf (mB (mIs .tup (mVar 2))) (mSeq (mIf (mB (m2 eqD (m2 ixD (mVar 2) (mC (.int 0))) (mC (.str "word")))) (mDrop (mMeth isLst appendD (mVar 1) (mConsA (m2 addD (mC (.str "'")) (m2 ixD (mVar 2) (mC (.int 1)))) (mNilA)))) (mDrop (mMeth isLst appendD (mVar 1) (mConsA (m2 ixD (mVar 2) (mC (.int 0))) (mNilA))))) (mIf (mB (m2 eqD (m2 ixD (mVar 2) (mC (.int 0))) (mC (.str "other")))) (mDrop (mMeth isLst appendD (mVar 1) (mConsA (mCallB strD (mConsA (m2 ixD (mVar 2) (mC (.int 1))) (mNilA))) (mNilA)))) (mSkip))) (mIf (mB (mIs .str (mVar 2))) (mDrop (mMeth isLst appendD (mVar 1) (mConsA (mVar 2) (mNilA)))) (mDrop (mMeth isLst appendD (mVar 1) (mConsA (mCallB strD (mConsA (mVar 2) (mNilA))) (mNilA))))))
def vparts : Vl → List D
  | .none => [.str "none"]
  | .me => [.str "me"]
  | .oth n => [.str "other", .str (nt n)]
  | .wrd w => [.str ("'" ++ w)]
section
variable {S : So} {N : Ro → So → Prop} {B : Fl × Ro → So → Prop} {d : D} {l : List D}
theorem due_v {v : Vl} (h : v.Ok) (hl : l.length ≤ 1000) (k : N [some d, some (.ref S.length), some v.toD] (S ++ [.lst (l ++ vparts v)])) : Wp (dueBody [some d, some (.ref S.length), some v.toD] (S ++ [.lst l])) (turnK N B) := by
  have h1 : l.length < lim := Nat.lt_of_le_of_lt hl (by decide)
  unfold dueBody
  cases v with
  | none =>
    unfold Vl.toD at k ⊢
    walk_at "go"
    refine ⟨ty_last, ?_⟩
    walk_at "go"
    refine Wp.ok (app_last h1) ?_
    walk_at "go"
    exact k
  | me =>
    unfold Vl.toD at k ⊢
    walk_at "go"
    refine ⟨ty_last, ?_⟩
    walk_at "go"
    refine Wp.ok (app_last h1) ?_
    walk_at "go"
    exact k
  | oth n =>
    unfold Vl.toD at k ⊢
    have h2 : (l ++ [D.str "other"]).length < lim := by
      rw [List.length_append]
      exact Nat.lt_of_le_of_lt (Nat.add_le_add_right hl 1) (by decide)
    walk_at "go"
    refine ⟨ty_last, ?_⟩
    walk_at "go"
    refine Wp.ok (app_last h1) ?_
    walk_at "go"
    refine ⟨ty_last, ?_⟩
    walk_at "go"
    refine Wp.opL (str_int (okN.log h)) ?_
    walk_at "go"
    refine Wp.ok (app_last h2) ?_
    walk_at "go"
    rw [List.append_assoc]
    exact k
  | wrd w =>
    unfold Vl.toD at k ⊢
    walk_at "go"
    refine ⟨ty_last, ?_⟩
    walk_at "go"
    refine Wp.op2 (f := addD) (add_str (lim_le (by
      have := (okW.len h).2
      have : ("'" : Str).length = 1 := by decide
      omega))) ?_
    walk_at "go"
    refine Wp.ok (app_last h1) ?_
    walk_at "go"
    exact k
theorem due_s {x : Str} (hl : l.length ≤ 1000) (k : N [some d, some (.ref S.length), some (.str x)] (S ++ [.lst (l ++ [.str x])])) : Wp (dueBody [some d, some (.ref S.length), some (.str x)] (S ++ [.lst l])) (turnK N B) := by
  have h1 : l.length < lim := Nat.lt_of_le_of_lt hl (by decide)
  unfold dueBody
  walk_at "go"
  refine ⟨ty_last, ?_⟩
  walk_at "go"
  refine Wp.ok (app_last h1) ?_
  walk_at "go"
  exact k
theorem due_n {n : Int} (h : okN n) (hl : l.length ≤ 1000) (k : N [some d, some (.ref S.length), some (.int n)] (S ++ [.lst (l ++ [.str (nt n)])])) : Wp (dueBody [some d, some (.ref S.length), some (.int n)] (S ++ [.lst l])) (turnK N B) := by
  have h1 : l.length < lim := Nat.lt_of_le_of_lt hl (by decide)
  unfold dueBody
  walk_at "go"
  refine ⟨ty_last, ?_⟩
  walk_at "go"
  refine Wp.opL (str_int (okN.log h)) ?_
  walk_at "go"
  refine Wp.ok (app_last h1) ?_
  walk_at "go"
  exact k
end
def eparts : Ev → List D
  | .gives v => .str "gives" :: vparts v
  | .throws v => .str "throws" :: vparts v
  | .calls n v u => .str "calls" :: .str (nt n) :: (vparts v ++ vparts u)
  | .asks w v u => .str "asks" :: .str w :: (vparts v ++ vparts u)
def vstrs : Vl → List Str
  | .none => ["none"]
  | .me => ["me"]
  | .oth n => ["other", nt n]
  | .wrd w => ["'" ++ w]
theorem vstrs_eq {v : Vl} {r : List D} {ys : List Str} (h : strsO r = some ys) : strsO (vparts v ++ r) = some (vstrs v ++ ys) := by
  cases v <;> simp [vparts, vstrs, strsO, h]
theorem vstrs_one {v : Vl} : strsO (vparts v) = some (vstrs v) := by
  have := vstrs_eq (v := v) (r := []) (ys := []) rfl
  simpa using this
theorem vsum {v : Vl} (h : v.Ok) : ((vstrs v).map (·.length)).sum ≤ 20 ∧ (vstrs v).length ≤ 2 ∧ 1 ≤ (vstrs v).length := by
  cases v with
  | none => exact ⟨by decide, by decide, by decide⟩
  | me => exact ⟨by decide, by decide, by decide⟩
  | oth n =>
    have := okN.len h
    have h5 : ("other" : Str).length = 5 := by decide
    refine ⟨?_, by show 2 ≤ 2; omega, by show 1 ≤ 2; omega⟩
    show ("other" : Str).length + ((nt n).length + 0) ≤ 20
    omega
  | wrd w =>
    have := (okW.len h).2
    have h5 : ("'" : Str).length = 1 := by decide
    refine ⟨?_, by show 1 ≤ 2; omega, by show 1 ≤ 1; omega⟩
    show ("'" ++ w : Str).length + 0 ≤ 20
    rw [Str.length_append]
    omega
end Mkk85
namespace Mkk85
open PySem Mi
def estrs : Ev → List Str
  | .gives v => "gives" :: vstrs v
  | .throws v => "throws" :: vstrs v
  | .calls n v u => "calls" :: nt n :: (vstrs v ++ vstrs u)
  | .asks w v u => "asks" :: w :: (vstrs v ++ vstrs u)
theorem estrs_eq {e : Ev} : strsO (eparts e) = some (estrs e) := by
  cases e with
  | gives v => simp [eparts, estrs, strsO, vstrs_one]
  | throws v => simp [eparts, estrs, strsO, vstrs_one]
  | calls n v u => simp [eparts, estrs, strsO, vstrs_eq vstrs_one]
  | asks w v u => simp [eparts, estrs, strsO, vstrs_eq vstrs_one]
theorem join_cons {s x : Str} {r : List Str} (h : r ≠ []) : Str.join s (x :: r) = x ++ s ++ Str.join s r := by
  cases r with
  | nil => exact absurd rfl h
  | cons y r => rfl
theorem jv {v : Vl} {r : List Str} (h : r ≠ []) : Str.join " " (vstrs v ++ r) = vtext v ++ " " ++ Str.join " " r := by
  cases v with
  | none => exact join_cons h
  | me => exact join_cons h
  | wrd w => exact join_cons h
  | oth n =>
    show Str.join " " ("other" :: nt n :: r) = _
    rw [join_cons (by simp), join_cons h]
    show _ = ((Str.empty ++ ("other " : Str)) ++ nt n) ++ " " ++ Str.join " " r
    have : (Str.empty ++ ("other " : Str)) = ("other" : Str) ++ (" " : Str) := by decide
    rw [this]
    simp only [Str.append_assoc]
theorem jv1 {v : Vl} : Str.join " " (vstrs v) = vtext v := by
  cases v with
  | none => rfl
  | me => rfl
  | wrd w => rfl
  | oth n =>
    show Str.join " " ("other" :: [nt n]) = (Str.empty ++ ("other " : Str)) ++ nt n
    rw [join_cons (by simp)]
    have : (Str.empty ++ ("other " : Str)) = ("other" : Str) ++ (" " : Str) := by decide
    rw [this]
    rfl
theorem vne {v : Vl} : vstrs v ≠ [] := by cases v <;> simp [vstrs]
theorem jtext {e : Ev} : Str.join " " (estrs e) = etext e := by
  cases e with
  | gives v =>
    show Str.join " " ("gives" :: vstrs v) = _
    rw [join_cons vne, jv1]
    rfl
  | throws v =>
    show Str.join " " ("throws" :: vstrs v) = _
    rw [join_cons vne, jv1]
    rfl
  | calls n v u =>
    show Str.join " " ("calls" :: nt n :: (vstrs v ++ vstrs u)) = _
    have h0 : (Str.empty ++ ("calls" : Str)) = "calls" := by decide
    rw [join_cons (by simp), join_cons (by cases v <;> simp [vstrs]), jv vne, jv1]
    show _ = ((((((Str.empty ++ "calls") ++ " ") ++ nt n) ++ " ") ++ vtext v) ++ " ") ++ vtext u
    rw [h0]
    simp only [Str.append_assoc]
  | asks w v u =>
    show Str.join " " ("asks" :: w :: (vstrs v ++ vstrs u)) = _
    have h0 : (Str.empty ++ ("asks" : Str)) = "asks" := by decide
    rw [join_cons (by simp), join_cons (by cases v <;> simp [vstrs]), jv vne, jv1]
    show _ = ((((((Str.empty ++ "asks") ++ " ") ++ w) ++ " ") ++ vtext v) ++ " ") ++ vtext u
    rw [h0]
    simp only [Str.append_assoc]
theorem esum {e : Ev} (h : e.Ok) : ((estrs e).map (·.length)).sum + (estrs e).length * (" " : Str).length ≤ lim := by
  have h1 : (" " : Str).length = 1 := by decide
  rw [h1, Nat.mul_one]
  refine lim_le ?_
  cases e with
  | gives v =>
    have := vsum (v := v) h
    have h5 : ("gives" : Str).length = 5 := by decide
    simp only [estrs, List.map_cons, List.sum_cons, List.length_cons, h5]
    omega
  | throws v =>
    have := vsum (v := v) h
    have h5 : ("throws" : Str).length = 6 := by decide
    simp only [estrs, List.map_cons, List.sum_cons, List.length_cons, h5]
    omega
  | calls n v u =>
    have h1 := okN.len h.1
    have h2 := vsum h.2.1
    have h3 := vsum h.2.2
    have h5 : ("calls" : Str).length = 5 := by decide
    simp only [estrs, List.map_cons, List.sum_cons, List.length_cons, h5, List.map_append, List.sum_append, List.length_append]
    omega
  | asks w v u =>
    have h1 := (okW.len h.1).2
    have h2 := vsum h.2.1
    have h3 := vsum h.2.2
    have h5 : ("asks" : Str).length = 4 := by decide
    simp only [estrs, List.map_cons, List.sum_cons, List.length_cons, h5, List.map_append, List.sum_append, List.length_append]
    omega
theorem vp_len {v : Vl} : (vparts v).length ≤ 2 := by cases v <;> simp [vparts]
def Grow (S : So) (r : D) (d : D) (S' : So) : Prop := (∃ T, S' = S ++ T) ∧ d = r
theorem due_eq {e : Ev} {S : So} (h : e.Ok) : Wp (m_law_due [e.toD] S) (Grow S (.str (etext e))) := by
  unfold m_law_due b_law_due
  have fin : ∀ ρ : Ro, ρ[1]? = some (some (.ref S.length)) → Wp (mRet (mMeth isStr joinD (mC (.str " ")) (mConsA (mVar 1) (mNilA))) ρ (S ++ [.lst (eparts e)])) (fnK (Grow S (.str (etext e)))) := by
    intro ρ hρ
    walk_at "go"
    refine Wp.var hρ ?_
    walk_at "go"
    refine Wp.ok (join_of seq_last estrs_eq (esum h) jtext) ?_
    walk_at "go"
    exact ⟨⟨_, rfl⟩, rfl⟩
  cases e with
  | gives v =>
    unfold Ev.toD
    walk_at "go"
    refine Wp.forL ?_
    walk_at "go"
    refine Wp.ok rfl ?_
    refine .inl ⟨_, .inl rfl, ?_⟩
    refine ⟨_, rfl, ?_⟩
    refine ⟨_, rfl, ?_⟩
    refine due_v (v := v) h (by decide) ?_
    refine Wp.nx ?_
    exact fin _ rfl
  | throws v =>
    unfold Ev.toD
    walk_at "go"
    refine Wp.forL ?_
    walk_at "go"
    refine Wp.ok rfl ?_
    refine .inl ⟨_, .inl rfl, ?_⟩
    refine ⟨_, rfl, ?_⟩
    refine ⟨_, rfl, ?_⟩
    refine due_v (v := v) h (by decide) ?_
    refine Wp.nx ?_
    exact fin _ rfl
  | calls n v u =>
    unfold Ev.toD
    walk_at "go"
    refine Wp.forL ?_
    walk_at "go"
    refine Wp.ok rfl ?_
    refine .inl ⟨_, .inl rfl, ?_⟩
    refine ⟨_, rfl, ?_⟩
    refine ⟨_, rfl, ?_⟩
    refine due_n h.1 (by decide) ?_
    refine ⟨_, rfl, ?_⟩
    refine due_v (v := v) h.2.1 (Nat.le_trans (Nat.le_of_eq (by rfl : _ = 2)) (by decide)) ?_
    refine ⟨_, rfl, ?_⟩
    refine due_v (v := u) h.2.2 (by rw [List.length_append]; exact Nat.le_trans (Nat.add_le_add (Nat.le_of_eq (by rfl : _ = 2)) vp_len) (by decide)) ?_
    refine Wp.nx ?_
    exact fin _ rfl
  | asks w v u =>
    unfold Ev.toD
    walk_at "go"
    refine Wp.forL ?_
    walk_at "go"
    refine Wp.ok rfl ?_
    refine .inl ⟨_, .inl rfl, ?_⟩
    refine ⟨_, rfl, ?_⟩
    refine ⟨_, rfl, ?_⟩
    refine due_s (by decide) ?_
    refine ⟨_, rfl, ?_⟩
    refine due_v (v := v) h.2.1 (Nat.le_trans (Nat.le_of_eq (by rfl : _ = 2)) (by decide)) ?_
    refine ⟨_, rfl, ?_⟩
    refine due_v (v := u) h.2.2 (by rw [List.length_append]; exact Nat.le_trans (Nat.add_le_add (Nat.le_of_eq (by rfl : _ = 2)) vp_len) (by decide)) ?_
    refine Wp.nx ?_
    exact fin _ rfl
end Mkk85
namespace Mkk85
open PySem Mi
section
variable {s t : Nat} {S : So}
theorem draw {many : Int} (h : St s t S) (h1 : 1 ≤ many) (h2 : many < 1073741824) : Wp (m_law_draw [.ref s, .int many] S) (fun r S' => St s t S' ∧ Keep s S S' ∧ ∃ k : Int, r = .int k ∧ 0 ≤ k ∧ k < many) := draw_eq h h1 h2
theorem num_eq (h : St s t S) : Wp (m_law_number [.ref s] S) (Pr s t S fun r _ => ∃ n, r = .int n ∧ okN n) := by
  unfold m_law_number b_law_number
  walk_at "go"
  refine (draw h (by decide) (by decide)).mono ?_
  rintro r S1 ⟨h1, k1, k, rfl, hk⟩
  walk_at "go"
  refine ⟨fun hc => ?_, fun hc => ?_⟩
  · walk_at "go"
    have : k = 0 ∨ k = 1 := by
      have := of_decide_eq_true hc
      omega
    rcases this with rfl | rfl
    · refine Wp.op2 (ix_lst (z := .int 0) last_at (by rfl)) ?_
      walk_at "go"
      exact ⟨h1.app, (Grw.keep k1).trans .app, _, rfl, by decide, by decide⟩
    · refine Wp.op2 (ix_lst (z := .int 999999) last_at (by rfl)) ?_
      walk_at "go"
      exact ⟨h1.app, (Grw.keep k1).trans .app, _, rfl, by decide, by decide⟩
  · walk_at "go"
    refine ⟨fun hc => ?_, fun hc => ?_⟩
    · walk_at "go"
      refine (draw h1 (by decide) (by decide)).mono ?_
      rintro r S2 ⟨h2, k2, q, rfl, hq⟩
      walk_at "go"
      exact ⟨h2, Grw.keep (k1.trans k2), _, rfl, hq.1, by omega⟩
    · walk_at "go"
      refine (draw h1 (by decide) (by decide)).mono ?_
      rintro r S2 ⟨h2, k2, q, rfl, hq⟩
      walk_at "go"
      exact ⟨h2, Grw.keep (k1.trans k2), _, rfl, hq.1, by have : ((10 : Int) ^ (6 : Nat)) = 1000000 := by decide
                                                          have h3 : q < ((10 : Int) ^ (6 : Nat)) := hq.2
                                                          omega⟩
end
end Mkk85
namespace Mkk85
open PySem Mi
def alpha : Str := "abcdefghijklmnopqrstuvwxyz"
def okC (c : Nat) : Prop := 97 ≤ c ∧ c ≤ 122
theorem alpha_all : ∀ j : Nat, j < 26 → L2.atI alpha.cps.toList (j : Int) = some (97 + j) := by decide
theorem ix_alpha {S : So} {k : Int} (h0 : 0 ≤ k) (h1 : k < 26) : ∃ c, okC c ∧ ixD (.str alpha) (.int k) S = .ok (.str ⟨#[c]⟩) S := by
  obtain ⟨j, rfl⟩ := Int.eq_ofNat_of_zero_le h0
  have hj : j < 26 := by omega
  refine ⟨97 + j, ⟨by omega, by omega⟩, ?_⟩
  unfold ixD ixO
  have : alpha.length ≤ lim := by decide
  simp only [if_pos this, alpha_all j hj, Option.map_some]
theorem low_all : ∀ j : Nat, j < 26 → lowB (97 + j) = true := by decide +kernel
theorem low_ok {c : Nat} (h : okC c) : lowB c = true := by
  have := low_all (c - 97) (by have := h.2; have := h.1; omega)
  have e : 97 + (c - 97) = c := by have := h.1; omega
  rw [e] at this
  exact this
def oneS (c : Nat) : Str := ⟨#[c]⟩
theorem strs_ones (cs : List Nat) : strsO (cs.map fun c => D.str (oneS c)) = some (cs.map oneS) := by
  induction cs with
  | nil => rfl
  | cons c r ih =>
    show (strsO (r.map fun c => D.str (oneS c))).map (oneS c :: ·) = _
    rw [ih]
    rfl
theorem join_ones (cs : List Nat) : Str.join "" (cs.map oneS) = ⟨cs.toArray⟩ := by
  induction cs with
  | nil => rfl
  | cons c r ih =>
    cases r with
    | nil => rfl
    | cons c2 r =>
      have e : Str.join "" ((c :: c2 :: r).map oneS) = oneS c ++ "" ++ Str.join "" ((c2 :: r).map oneS) := rfl
      rw [e, ih]
      show (⟨(#[c] ++ ("" : Str).cps) ++ (c2 :: r).toArray⟩ : Str) = _
      have : ("" : Str).cps = #[] := by decide
      rw [this]
      simp
theorem ones_sum (cs : List Nat) : ((cs.map oneS).map (·.length)).sum = cs.length := by
  induction cs with
  | nil => rfl
  | cons c r ih =>
    simp only [List.map_cons, List.sum_cons, List.length_cons, ih]
    show 1 + r.length = r.length + 1
    omega
def okL (w : Str) : Prop := (∀ c ∈ w.cps.toList, okC c) ∧ 1 ≤ w.length ∧ w.length ≤ 8
theorem okL.ok {w : Str} (h : okL w) : okW w := by
  refine ⟨?_, fun z => ?_⟩
  · have : w.cps.toList.all lowB = true := List.all_eq_true.mpr fun c hc => low_ok (h.1 c hc)
    simp [nameB, h.2.1, h.2.2, this]
  · have := (h.1 32 z).1
    omega
section
variable {s t : Nat} {S : So}
def namesI (s t : Nat) (S : So) (n : Nat) (m fr sh : D) (k : Nat) (ρ : Ro) (S' : So) : Prop := St s t S' ∧ Grw s S S' ∧ (∃ ws : List Str, S'[n]? = some (.lst (ws.map D.str)) ∧ ws.length = k ∧ ∀ w ∈ ws, okL w) ∧
  ∃ o6 o7 o8 o9, ρ = [some (.ref s), some m, some (.str alpha), some fr, some sh, some (.ref n), o6, o7, o8, o9]
def lcI (s t : Nat) (S : So) (n nL : Nat) (ws : List Str) (j : Nat) (S' : So) : Prop := St s t S' ∧ Grw s S S' ∧ S'[n]? = some (.lst (ws.map D.str)) ∧ ∃ cs : List Nat, S'[nL]? = some (.lst (cs.map fun c => D.str (oneS c))) ∧ cs.length = j ∧ ∀ c ∈ cs, okC c
theorem wlen {c : Nat} {cs : List Nat} (h : cs.length ≤ 7) (hc : okC c) (hcs : ∀ x ∈ cs, okC x) : okL (oneS c ++ ⟨cs.toArray⟩) ∧ okL ((⟨cs.toArray⟩ : Str) ++ oneS c) ∧ (oneS c).length + (⟨cs.toArray⟩ : Str).length ≤ lim ∧ (⟨cs.toArray⟩ : Str).length + (oneS c).length ≤ lim := by
  have l1 : (oneS c).length = 1 := rfl
  have l2 : (⟨cs.toArray⟩ : Str).length = cs.length := by simp [Str.length]
  have l3 : 1000 ≤ lim := lim_big
  refine ⟨⟨fun x hx => ?_, ?_, ?_⟩, ⟨fun x hx => ?_, ?_, ?_⟩, by omega, by omega⟩
  · have : (oneS c ++ (⟨cs.toArray⟩ : Str)).cps.toList = c :: cs := by
      show (#[c] ++ cs.toArray).toList = _
      simp
    rw [this] at hx
    rcases List.mem_cons.mp hx with rfl | hx
    · exact hc
    · exact hcs x hx
  · rw [Str.length_append]; omega
  · rw [Str.length_append]; omega
  · have : ((⟨cs.toArray⟩ : Str) ++ oneS c).cps.toList = cs ++ [c] := by
      show (cs.toArray ++ #[c]).toList = _
      simp
    rw [this] at hx
    rcases List.mem_append.mp hx with hx | hx
    · exact hcs x hx
    · rcases List.mem_cons.mp hx with rfl | hx
      · exact hc
      · cases hx
  · rw [Str.length_append]; omega
  · rw [Str.length_append]; omega
theorem names_eq {m : Nat} (h : St s t S) (hm : m ≤ 100) : Wp (m_law_names [.ref s, .int m] S) (Pr s t S fun r S' => ∃ (n : Nat) (ws : List Str), r = .ref n ∧ S'[n]? = some (.lst (ws.map D.str)) ∧ ws.length = m ∧ ∀ w ∈ ws, okL w) := by
  unfold m_law_names b_law_names
  have hst := h.lt
  walk_at "go"
  refine (draw h (by decide) (by decide)).mono ?_
  rintro r S1 ⟨h1, k1, k, rfl, hk⟩
  walk_at "go"
  refine (draw h1 (by decide) (by decide)).mono ?_
  rintro r S2 ⟨h2, k2, sh, rfl, hsh⟩
  walk_at "go"
  have hl2 : S.length = S2.length := by rw [k2.1, k1.1]
  refine Wp.forV ?_
  walk_at "go"
  refine ⟨by have : (m : Int) ≤ 100 := by omega
             have : ((lim : Nat) : Int) = 100000 := rfl
             omega, ?_⟩
  refine ⟨_, rfl, namesI s t S S2.length (.int m) (.bl (k == 0)) (.int sh), ?_, ?_, ?_⟩
  · exact ⟨h2.app, (Grw.keep (k1.trans k2)).trans .app, ⟨[], last_at, rfl, fun w hw => by cases hw⟩, _, _, _, _, rfl⟩
  · rintro i d ρ S3 hd ⟨h3, g3, ⟨ws, hw, hwl, hok⟩, o6, o7, o8, o9, rfl⟩
    refine ⟨_, rfl, ?_⟩
    walk_at "go"
    refine Wp.lcV ?_
    walk_at "go"
    refine (draw h3 (by decide) (by decide)).mono ?_
    rintro r S4 ⟨h4, k4, q, rfl, hq⟩
    walk_at "go"
    have hn4 : S2.length < S4.length := by
      rw [k4.1]
      exact (List.getElem?_eq_some_iff.mp hw).1
    have hd' : d = .int (0 + (i : Int)) := by
      rw [List.getElem?_map] at hd
      cases hr : (List.range (m : Int).toNat)[i]? with
      | none => rw [hr] at hd; cases hd
      | some x =>
        rw [hr] at hd
        cases hd
        have := List.getElem?_eq_some_iff.mp hr
        obtain ⟨_, hx⟩ := this
        simp at hx
        rw [hx]
    subst hd'
    refine ⟨by have : ((lim : Nat) : Int) = 100000 := rfl
               omega, ?_⟩
    refine ⟨_, rfl, lcI s t S S2.length S4.length ws, ?_, ?_, ?_⟩
    · refine ⟨h4.app, (g3.trans (Grw.keep k4)).trans .app, ?_, [], last_at, rfl, fun c hc => by cases hc⟩
      rw [List.getElem?_append_left hn4, k4.2 _ (by omega)]
      exact hw
    · rintro j e S5 he ⟨h5, g5, hw5, cs, hcs, hcl, hco⟩
      refine ⟨_, rfl, ?_⟩
      walk_at "go"
      refine (draw h5 (by decide) (by decide)).mono ?_
      rintro r S6 ⟨h6, k6, a, rfl, ha⟩
      obtain ⟨c, hc, ec⟩ := ix_alpha (S := S6) ha.1 ha.2
      refine Wp.op2 ec ?_
      have hj : j < 8 := by
        have := (List.getElem?_eq_some_iff.mp he).1
        simp at this
        omega
      have hcs6 : S6[S4.length]? = some (.lst (cs.map fun c => D.str (oneS c))) := by
        rw [k6.2 _ (by have := k4.1; have := g3.1; omega)]
        exact hcs
      refine ⟨_, hcs6, ?_, ?_⟩
      · rw [List.length_map, hcl]
        exact Nat.lt_of_lt_of_le hj (by decide)
      · have lt4 : S4.length < S6.length := (List.getElem?_eq_some_iff.mp hcs6).1
        refine ⟨h6.set (by have := k4.1; have := g3.1; omega) (by have := k4.1; have := g3.1; omega), (g5.trans (Grw.keep k6)).set (by have := k4.1; have := g3.1; omega), ?_, cs ++ [c], ?_, ?_, ?_⟩
        · rw [List.getElem?_set_ne (by omega), k6.2 _ (by omega)]
          exact hw5
        · rw [List.getElem?_set_self lt4, List.map_append]
          rfl
        · rw [List.length_append, hcl]
          rfl
        · intro x hx
          rcases List.mem_append.mp hx with hx | hx
          · exact hco x hx
          · rcases List.mem_cons.mp hx with rfl | hx
            · exact hc
            · cases hx
    · rintro S5 ⟨h5, g5, hw5, cs, hcs, hcl, hco⟩
      walk_at "go"
      have hc7 : cs.length ≤ 7 := by
        rw [hcl]
        simp
        omega
      have hsq : seqO S5 (.ref S4.length) = some (cs.map fun c => D.str (oneS c)) := by
        unfold seqO vw
        simp only [hcs]
      refine Wp.ok (join_of hsq (strs_ones cs) ?_ (join_ones cs)) ?_
      · rw [ones_sum, List.length_map]
        have : ("" : Str).length = 0 := by decide
        rw [this]
        exact lim_le (by omega)
      walk_at "go"
      have hf := fmod_in (a := sh + (0 + (i : Int))) (many := 26) (by decide)
      obtain ⟨c, hc, ec⟩ := ix_alpha (S := S5) hf.1 hf.2
      refine Wp.op2 ec ?_
      walk_at "go"
      obtain ⟨w1, w2, w3, w4⟩ := wlen hc7 hc hco
      have lt5 : S2.length < S5.length := (List.getElem?_eq_some_iff.mp hw5).1
      have hwl' : (ws.map D.str).length < lim := by
        rw [List.length_map, hwl]
        have hi : i < m := by
          have := (List.getElem?_eq_some_iff.mp hd).1
          simpa using this
        exact Nat.lt_of_lt_of_le (Nat.lt_of_lt_of_le hi hm) (by decide)
      have hil : isLst S5 (.ref S2.length) = true := by
        unfold isLst
        simp only [hw5]
      have done : ∀ w, okL w → namesI s t S S2.length (.int m) (.bl (k == 0)) (.int sh) (i + 1) [some (.ref s), some (.int m), some (.str alpha), some (.bl (k == 0)), some (.int sh), some (.ref S2.length), some (.int (0 + (i : Int))), some (.str ⟨cs.toArray⟩), some (.str (oneS c)), o9] (S5.set S2.length (.lst (ws.map D.str ++ [.str w]))) := by
        intro w hwk
        refine ⟨h5.set (by omega) (by omega), g5.set (by omega), ⟨ws ++ [w], ?_, ?_, ?_⟩, _, _, _, _, rfl⟩
        · rw [List.getElem?_set_self lt5, List.map_append]
          rfl
        · rw [List.length_append, hwl]
          rfl
        · intro x hx
          rcases List.mem_append.mp hx with hx | hx
          · exact hok x hx
          · rcases List.mem_cons.mp hx with rfl | hx
            · exact hwk
            · cases hx
      refine ⟨fun hb => ?_, fun hb => ?_⟩
      · walk_at "go"
        refine ⟨hil, ?_⟩
        walk_at "go"
        refine Wp.op2 (add_str w3) ?_
        walk_at "go"
        refine Wp.ok (app_lst hw5 hwl') ?_
        walk_at "go"
        exact done _ w1
      · walk_at "go"
        refine ⟨hil, ?_⟩
        walk_at "go"
        refine Wp.op2 (add_str w4) ?_
        walk_at "go"
        refine Wp.ok (app_lst hw5 hwl') ?_
        walk_at "go"
        exact done _ w2
  · rintro ρ S3 ⟨h3, g3, ⟨ws, hw, hwl, hok⟩, o6, o7, o8, o9, rfl⟩
    walk_at "go"
    refine ⟨h3, g3, _, ws, rfl, hw, ?_, hok⟩
    rw [hwl]
    simp
end
end Mkk85
namespace Mkk85
open PySem Mi
section
variable {s t : Nat} {S : So}
theorem names1 (h : St s t S) : Wp (m_law_names [.ref s, .int 1] S) (Pr s t S fun r S' => ∃ (n : Nat) (w : Str), r = .ref n ∧ S'[n]? = some (.lst [.str w]) ∧ okW w) := by
  refine (names_eq (m := 1) h (by decide)).mono ?_
  rintro r S' ⟨h1, g1, n, ws, rfl, hw, hl, hok⟩
  match ws, hl with
  | [w], _ => exact ⟨h1, g1, n, w, rfl, hw, (hok w (by simp)).ok⟩
theorem value_eq (h : St s t S) : Wp (m_law_value [.ref s] S) (Pr s t S fun r _ => ∃ v : Vl, r = v.toD ∧ v.Ok) := by
  unfold m_law_value b_law_value
  walk_at "go"
  refine (draw h (by decide) (by decide)).mono ?_
  rintro r S1 ⟨h1, k1, k, rfl, hk⟩
  walk_at "go"
  refine ⟨fun hc => ?_, fun hc => ?_⟩
  · walk_at "go"
    have : k = 0 ∨ k = 1 := by
      have := of_decide_eq_true hc
      omega
    rcases this with rfl | rfl
    · refine Wp.op2 (ix_lst (z := .tup [.str "none"]) last_at (by rfl)) ?_
      walk_at "go"
      exact ⟨St.app h1, (Grw.keep k1).trans .app, .none, rfl, trivial⟩
    · refine Wp.op2 (ix_lst (z := .tup [.str "me"]) last_at (by rfl)) ?_
      walk_at "go"
      exact ⟨St.app h1, (Grw.keep k1).trans .app, .me, rfl, trivial⟩
  · walk_at "go"
    refine ⟨fun hc => ?_, fun hc => ?_⟩
    · walk_at "go"
      refine (num_eq h1).mono ?_
      rintro r S2 ⟨h2, g2, n, rfl, hn⟩
      walk_at "go"
      exact ⟨h2, (Grw.keep k1).trans g2, .oth n, rfl, hn⟩
    · walk_at "go"
      refine (names1 h1).mono ?_
      rintro r S2 ⟨h2, g2, n, w, rfl, hw, hok⟩
      walk_at "go"
      exact ⟨h2, (Grw.keep k1).trans g2, .wrd w, rfl, hok⟩
theorem event_dr (h : St s t S) : Wp (m_law_event [.ref s] S) (Pr s t S fun r _ => ∃ e : Ev, r = e.toD ∧ e.Ok) := by
  unfold m_law_event b_law_event
  walk_at "go"
  refine (draw h (by decide) (by decide)).mono ?_
  rintro r S1 ⟨h1, k1, k, rfl, hk⟩
  walk_at "go"
  refine (value_eq h1).mono ?_
  rintro r S2 ⟨h2, g2, v, rfl, hv⟩
  have g02 := (Grw.keep k1).trans g2
  walk_at "go"
  refine ⟨fun hc => ?_, fun hc => ?_⟩
  · walk_at "go"
    have : k = 0 ∨ k = 1 := by
      have := of_decide_eq_true hc
      omega
    rcases this with rfl | rfl
    · refine Wp.op2 (ix_lst (z := .str "gives") last_at (by rfl)) ?_
      walk_at "go"
      exact ⟨St.app h2, g02.trans .app, .gives v, rfl, hv⟩
    · refine Wp.op2 (ix_lst (z := .str "throws") last_at (by rfl)) ?_
      walk_at "go"
      exact ⟨St.app h2, g02.trans .app, .throws v, rfl, hv⟩
  · walk_at "go"
    refine ⟨fun hc => ?_, fun hc => ?_⟩
    · walk_at "go"
      refine (num_eq h2).mono ?_
      rintro r S3 ⟨h3, g3, n, rfl, hn⟩
      walk_at "go"
      refine (value_eq h3).mono ?_
      rintro r S4 ⟨h4, g4, u, rfl, hu⟩
      walk_at "go"
      exact ⟨h4, g02.trans (g3.trans g4), .calls n v u, rfl, hn, hv, hu⟩
    · walk_at "go"
      refine (names1 h2).mono ?_
      rintro r S3 ⟨h3, g3, n, w, rfl, hw, hok⟩
      walk_at "go"
      refine (value_eq h3).mono ?_
      rintro r S4 ⟨h4, g4, u, rfl, hu⟩
      walk_at "go"
      exact ⟨h4, g02.trans (g3.trans g4), .asks w v u, rfl, hok, hv, hu⟩
theorem near_dr {e : Ev} (he : e.Ok) (h : St s t S) : Wp (m_law_near [.ref s, e.toD] S) (Pr s t S fun r _ => ∃ e' : Ev, r = e'.toD ∧ e'.Ok) := by
  unfold m_law_near b_law_near
  cases e with
  | gives v =>
    dsimp only [Ev.toD]
    walk_at "go"
    refine (draw (many := 2) h (by decide) (by decide)).mono ?_
    rintro r S1 ⟨h1, k1, k, rfl, hk⟩
    have : k = 0 ∨ k = 1 := by omega
    rcases this with rfl | rfl
    · walk_at "go"
      refine (event_dr h1).mono ?_
      rintro r S2 ⟨h2, g2, e, rfl, he⟩
      walk_at "go"
      exact ⟨h2, (Grw.keep k1).trans g2, e, rfl, he⟩
    · walk_at "go"
      refine Wp.ok rfl ?_
      walk_at "go"
      refine (value_eq h1).mono ?_
      rintro r S2 ⟨h2, g2, z, rfl, hz⟩
      walk_at "go"
      refine Wp.ok rfl ?_
      walk_at "go"
      exact ⟨h2, (Grw.keep k1).trans g2, .gives z, rfl, hz⟩
  | throws v =>
    dsimp only [Ev.toD]
    walk_at "go"
    refine (draw (many := 2) h (by decide) (by decide)).mono ?_
    rintro r S1 ⟨h1, k1, k, rfl, hk⟩
    have : k = 0 ∨ k = 1 := by omega
    rcases this with rfl | rfl
    · walk_at "go"
      refine (event_dr h1).mono ?_
      rintro r S2 ⟨h2, g2, e, rfl, he⟩
      walk_at "go"
      exact ⟨h2, (Grw.keep k1).trans g2, e, rfl, he⟩
    · walk_at "go"
      refine Wp.ok rfl ?_
      walk_at "go"
      refine (value_eq h1).mono ?_
      rintro r S2 ⟨h2, g2, z, rfl, hz⟩
      walk_at "go"
      refine Wp.ok rfl ?_
      walk_at "go"
      exact ⟨h2, (Grw.keep k1).trans g2, .throws z, rfl, hz⟩
  | calls n v u =>
    dsimp only [Ev.toD]
    obtain ⟨q1, q2, q3⟩ := he
    walk_at "go"
    refine (draw (many := 4) h (by decide) (by decide)).mono ?_
    rintro r S1 ⟨h1, k1, k, rfl, hk⟩
    have : k = 0 ∨ k = 1 ∨ k = 2 ∨ k = 3 := by omega
    rcases this with rfl | rfl | rfl | rfl
    · walk_at "go"
      refine (event_dr h1).mono ?_
      rintro r S2 ⟨h2, g2, e, rfl, he⟩
      walk_at "go"
      exact ⟨h2, (Grw.keep k1).trans g2, e, rfl, he⟩
    · walk_at "go"
      refine (event_dr h1).mono ?_
      rintro r S2 ⟨h2, g2, e, rfl, he⟩
      walk_at "go"
      exact ⟨h2, (Grw.keep k1).trans g2, e, rfl, he⟩
    · walk_at "go"
      refine Wp.ok rfl ?_
      walk_at "go"
      refine (value_eq h1).mono ?_
      rintro r S2 ⟨h2, g2, z, rfl, hz⟩
      walk_at "go"
      refine Wp.ok rfl ?_
      walk_at "go"
      exact ⟨h2, (Grw.keep k1).trans g2, .calls n z u, rfl, q1, hz, q3⟩
    · walk_at "go"
      refine Wp.ok rfl ?_
      walk_at "go"
      refine (value_eq h1).mono ?_
      rintro r S2 ⟨h2, g2, z, rfl, hz⟩
      walk_at "go"
      refine Wp.ok rfl ?_
      walk_at "go"
      exact ⟨h2, (Grw.keep k1).trans g2, .calls n v z, rfl, q1, q2, hz⟩
  | asks w v u =>
    dsimp only [Ev.toD]
    obtain ⟨q1, q2, q3⟩ := he
    walk_at "go"
    refine (draw (many := 4) h (by decide) (by decide)).mono ?_
    rintro r S1 ⟨h1, k1, k, rfl, hk⟩
    have : k = 0 ∨ k = 1 ∨ k = 2 ∨ k = 3 := by omega
    rcases this with rfl | rfl | rfl | rfl
    · walk_at "go"
      refine (event_dr h1).mono ?_
      rintro r S2 ⟨h2, g2, e, rfl, he⟩
      walk_at "go"
      exact ⟨h2, (Grw.keep k1).trans g2, e, rfl, he⟩
    · walk_at "go"
      refine (event_dr h1).mono ?_
      rintro r S2 ⟨h2, g2, e, rfl, he⟩
      walk_at "go"
      exact ⟨h2, (Grw.keep k1).trans g2, e, rfl, he⟩
    · walk_at "go"
      refine Wp.ok rfl ?_
      walk_at "go"
      refine (value_eq h1).mono ?_
      rintro r S2 ⟨h2, g2, z, rfl, hz⟩
      walk_at "go"
      refine Wp.ok rfl ?_
      walk_at "go"
      exact ⟨h2, (Grw.keep k1).trans g2, .asks w z u, rfl, q1, hz, q3⟩
    · walk_at "go"
      refine Wp.ok rfl ?_
      walk_at "go"
      refine (value_eq h1).mono ?_
      rintro r S2 ⟨h2, g2, z, rfl, hz⟩
      walk_at "go"
      refine Wp.ok rfl ?_
      walk_at "go"
      exact ⟨h2, (Grw.keep k1).trans g2, .asks w v z, rfl, q1, q2, hz⟩
end
end Mkk85
namespace Mkk85
open PySem Mi
def Dp : Nat → D → Prop
  | 0, d => (∀ ds, d ≠ .tup ds) ∧ ∀ ds, d ≠ .frl ds
  | n + 1, d => (∀ ds, d = .tup ds → ∀ e ∈ ds, Dp n e) ∧ ∀ ds, d ≠ .frl ds
theorem eqL_refl {f : D → D → Option Bool} : ∀ {ds : List D}, (∀ e ∈ ds, f e e = some true) → eqL f ds ds = some true
  | [], _ => rfl
  | d :: ds, h => by
    unfold eqL
    rw [h d (by simp), eqL_refl fun e he => h e (by simp [he])]
    rfl
theorem eqB_refl {dk : Bool} {S : So} : ∀ (n m : Nat) (d : D), Dp n d → n < m → eqB dk S m d d = some true := by
  intro n
  induction n with
  | zero =>
    intro m d h hm
    obtain ⟨m, rfl⟩ : ∃ k, m = k + 1 := ⟨m - 1, by omega⟩
    cases d with
    | tup ds => exact absurd rfl (h.1 ds)
    | frl ds => exact absurd rfl (h.2 ds)
    | ref n => show (if (n == n) = true then _ else _) = _; simp
    | non => rfl
    | bl b => show some (b == b) = _; simp
    | int b => show some (b == b) = _; simp
    | str b => show some (b == b) = _; simp
  | succ n ih =>
    intro m d h hm
    obtain ⟨m, rfl⟩ : ∃ k, m = k + 1 := ⟨m - 1, by omega⟩
    cases d with
    | tup ds => exact eqL_refl fun e he => ih m e (h.1 ds rfl e he) (by omega)
    | frl ds => exact absurd rfl (h.2 ds)
    | ref n => show (if (n == n) = true then _ else _) = _; simp
    | non => rfl
    | bl b => show some (b == b) = _; simp
    | int b => show some (b == b) = _; simp
    | str b => show some (b == b) = _; simp
theorem ix_mem {S : So} {n : Nat} {ds : List D} {k : Int} (h : S[n]? = some (.lst ds)) (h0 : 0 ≤ k) (h1 : k < (ds.length : Nat)) : ∃ z, z ∈ ds ∧ ixD (.ref n) (.int k) S = .ok z S := by
  obtain ⟨j, rfl⟩ := Int.eq_ofNat_of_zero_le h0
  have hj : j < ds.length := by omega
  refine ⟨ds[j], List.getElem_mem hj, ix_lst h ?_⟩
  unfold L2.atI L2.ixN
  rw [if_pos (Int.natCast_nonneg j), if_pos h1]
  simp [hj]
def elen : Ev → Nat
  | .gives _ => 2
  | .throws _ => 2
  | _ => 4
theorem len_ev {e : Ev} {S : So} : lenD [e.toD] S = .ok (.int (elen e)) S := by cases e <;> rfl
theorem dp_leaf {n : Nat} {d : D} (h1 : ∀ ds, d ≠ .tup ds) (h2 : ∀ ds, d ≠ .frl ds) : Dp n d := by
  cases n with
  | zero => exact ⟨h1, h2⟩
  | succ n => exact ⟨fun ds e => absurd e (h1 ds), h2⟩
theorem dp_tup {n : Nat} {ds : List D} (h : ∀ e ∈ ds, Dp n e) : Dp (n + 1) (.tup ds) := ⟨fun ds' e => by
  cases e
  exact h, fun ds' e => by cases e⟩
theorem dp_int {n : Nat} {i : Int} : Dp n (.int i) := dp_leaf (fun _ z => by cases z) (fun _ z => by cases z)
theorem dp_str {n : Nat} {i : Str} : Dp n (.str i) := dp_leaf (fun _ z => by cases z) (fun _ z => by cases z)
theorem dp_bl {n : Nat} {i : Bool} : Dp n (.bl i) := dp_leaf (fun _ z => by cases z) (fun _ z => by cases z)
theorem dp_non {n : Nat} : Dp n .non := dp_leaf (fun _ z => by cases z) (fun _ z => by cases z)
theorem dp_ref {n i : Nat} : Dp n (.ref i) := dp_leaf (fun _ z => by cases z) (fun _ z => by cases z)
theorem dp_nil {n : Nat} : Dp (n + 1) (.tup []) := dp_tup fun e he => by cases he
theorem all3 {P : D → Prop} {a b c : D} (h1 : P a) (h2 : P b) (h3 : P c) : ∀ e ∈ [a, b, c], P e := by
  intro e h
  rcases List.mem_cons.mp h with rfl | h
  · exact h1
  · exact all2 h2 h3 e h
theorem all5 {P : D → Prop} {a b c d f : D} (h1 : P a) (h2 : P b) (h3 : P c) (h4 : P d) (h5 : P f) : ∀ e ∈ [a, b, c, d, f], P e := by
  intro e h
  rcases List.mem_cons.mp h with rfl | h
  · exact h1
  · exact all4 h2 h3 h4 h5 e h
theorem Dp.up {n : Nat} {d : D} (h : Dp n d) : Dp (n + 1) d := by
  induction n generalizing d with
  | zero => exact dp_leaf h.1 h.2
  | succ n ih => exact ⟨fun ds e x hx => ih (h.1 ds e x hx), h.2⟩
theorem Vl.dp {v : Vl} : Dp 2 v.toD := by
  cases v with
  | none => exact dp_tup (all1 dp_str)
  | me => exact dp_tup (all1 dp_str)
  | oth n => exact dp_tup (all2 dp_str dp_int)
  | wrd w => exact dp_tup (all2 dp_str dp_str)
theorem Ev.dp {e : Ev} : Dp 3 e.toD := by
  cases e with
  | gives v => exact dp_tup (all2 dp_str Vl.dp)
  | throws v => exact dp_tup (all2 dp_str Vl.dp)
  | calls n v u => exact dp_tup (all4 dp_str dp_int Vl.dp Vl.dp)
  | asks w v u => exact dp_tup (all4 dp_str dp_str Vl.dp Vl.dp)
def N1 (z : D) : Prop := countB z = false ∧ (∀ S, Lf1 S z) ∧ Dp 1 z
def N2 (z : D) : Prop := nameB z = false ∧ (∀ S, Lf1 S z) ∧ Dp 1 z
theorem nt_int {i : Int} : ∀ ds, D.int i ≠ .tup ds := fun _ z => by cases z
theorem nt_str {i : Str} : ∀ ds, D.str i ≠ .tup ds := fun _ z => by cases z
theorem nt_bl {i : Bool} : ∀ ds, D.bl i ≠ .tup ds := fun _ z => by cases z
theorem nt_non : ∀ ds, D.non ≠ .tup ds := fun _ z => by cases z
theorem nt_ref {n : Nat} : ∀ ds, D.ref n ≠ .tup ds := fun _ z => by cases z
theorem n1_all {z : D} (hz : z ∈ [D.int (-1), D.int (10 ^ Int.toNat 6), D.bl true, D.bl false, D.str "1", D.non, D.int (-10 ^ Int.toNat 40), D.tup []]) : N1 z := by
  rcases List.mem_cons.mp hz with rfl | hz
  · exact ⟨by first | rfl | decide, fun _ => lf1_of leaf_int nt_int, dp_int⟩
  rcases List.mem_cons.mp hz with rfl | hz
  · exact ⟨by first | rfl | decide, fun _ => lf1_of leaf_int nt_int, dp_int⟩
  rcases List.mem_cons.mp hz with rfl | hz
  · exact ⟨by first | rfl | decide, fun _ => lf1_of leaf_bl nt_bl, dp_bl⟩
  rcases List.mem_cons.mp hz with rfl | hz
  · exact ⟨by first | rfl | decide, fun _ => lf1_of leaf_bl nt_bl, dp_bl⟩
  rcases List.mem_cons.mp hz with rfl | hz
  · exact ⟨by first | rfl | decide, fun _ => lf1_of (leaf_str (by decide)) nt_str, dp_str⟩
  rcases List.mem_cons.mp hz with rfl | hz
  · exact ⟨by first | rfl | decide, fun _ => lf1_of leaf_non nt_non, dp_non⟩
  rcases List.mem_cons.mp hz with rfl | hz
  · exact ⟨by first | rfl | decide, fun _ => lf1_of leaf_int nt_int, dp_int⟩
  rcases List.mem_cons.mp hz with rfl | hz
  · exact ⟨by first | rfl | decide, fun _ => lf1_tup (fun e he => by cases he), dp_nil⟩
  cases hz
theorem n2_all {z : D} (hz : z ∈ [D.str "", D.str "abcdefghi", D.str "Ab", D.str "a1", D.str "a b", D.int 7, D.non, D.bl true, D.tup [D.str "a"]]) : N2 z := by
  rcases List.mem_cons.mp hz with rfl | hz
  · exact ⟨by first | rfl | decide +kernel, fun _ => lf1_of (leaf_str (by decide)) nt_str, dp_str⟩
  rcases List.mem_cons.mp hz with rfl | hz
  · exact ⟨by first | rfl | decide +kernel, fun _ => lf1_of (leaf_str (by decide)) nt_str, dp_str⟩
  rcases List.mem_cons.mp hz with rfl | hz
  · exact ⟨by first | rfl | decide +kernel, fun _ => lf1_of (leaf_str (by decide)) nt_str, dp_str⟩
  rcases List.mem_cons.mp hz with rfl | hz
  · exact ⟨by first | rfl | decide +kernel, fun _ => lf1_of (leaf_str (by decide)) nt_str, dp_str⟩
  rcases List.mem_cons.mp hz with rfl | hz
  · exact ⟨by first | rfl | decide +kernel, fun _ => lf1_of (leaf_str (by decide)) nt_str, dp_str⟩
  rcases List.mem_cons.mp hz with rfl | hz
  · exact ⟨by first | rfl | decide +kernel, fun _ => lf1_of leaf_int nt_int, dp_int⟩
  rcases List.mem_cons.mp hz with rfl | hz
  · exact ⟨by first | rfl | decide +kernel, fun _ => lf1_of leaf_non nt_non, dp_non⟩
  rcases List.mem_cons.mp hz with rfl | hz
  · exact ⟨by first | rfl | decide +kernel, fun _ => lf1_of leaf_bl nt_bl, dp_bl⟩
  rcases List.mem_cons.mp hz with rfl | hz
  · exact ⟨by first | rfl | decide +kernel, fun _ => lf1_tup (all1 (leaf_str (by decide))), (dp_tup (all1 dp_str))⟩
  cases hz
def VOk (nR : Nat) (z : D) : Prop := shownB z = false ∧ Dp 2 z ∧ ((∀ S, Lf1 S z) ∨ z = .ref nR)
theorem vok_t {nR : Nat} {ds : List D} (h : shownB (.tup ds) = false) (h2 : ∀ e ∈ ds, Dp 1 e) (h3 : ∀ S, ∀ e ∈ ds, Leaf S e) : VOk nR (.tup ds) := ⟨h, dp_tup h2, .inl fun S => lf1_tup (h3 S)⟩
theorem vok_l {nR : Nat} {z : D} (h : shownB z = false) (h2 : Dp 2 z) (h3 : ∀ S, Leaf S z) (h4 : ∀ ds, z ≠ .tup ds) : VOk nR z := ⟨h, h2, .inl fun S => lf1_of (h3 S) h4⟩
theorem v_all {nR : Nat} {z1 z2 z : D} (q1 : N1 z1) (q2 : N2 z2) (hz : z ∈ [D.tup [D.str "other", z1], D.tup [D.str "word", z2], D.tup [D.str "word"], D.tup [D.str "other"], D.tup [D.str "none", D.int 0], D.tup [D.str "me", D.tup []], D.tup [D.str "able", D.int 0], D.tup [D.str "unable", D.int 1], D.tup [D.str "name", D.str "x"], D.ref nR, D.str "none", D.int 0, D.non, D.tup [], D.tup [D.str "field", D.str "f"], D.tup [D.str "word", D.str "a", D.str "b"], D.tup [D.tup [D.str "none"]]]) : VOk nR z := by
  rcases List.mem_cons.mp hz with rfl | hz
  · exact ⟨sb_other.trans q1.1, dp_tup (all2 dp_str q1.2.2), .inl fun S => lf1_tup (all2 (leaf_str (by decide)) (q1.2.1 S).1)⟩
  rcases List.mem_cons.mp hz with rfl | hz
  · exact ⟨sb_word.trans q2.1, dp_tup (all2 dp_str q2.2.2), .inl fun S => lf1_tup (all2 (leaf_str (by decide)) (q2.2.1 S).1)⟩
  rcases List.mem_cons.mp hz with rfl | hz
  · exact vok_t rfl (all1 dp_str) (fun S => all1 (leaf_str (by decide)))
  rcases List.mem_cons.mp hz with rfl | hz
  · exact vok_t rfl (all1 dp_str) (fun S => all1 (leaf_str (by decide)))
  rcases List.mem_cons.mp hz with rfl | hz
  · exact vok_t rfl (all2 dp_str dp_int) (fun S => all2 (leaf_str (by decide)) leaf_int)
  rcases List.mem_cons.mp hz with rfl | hz
  · exact vok_t rfl (all2 dp_str dp_nil) (fun S => all2 (leaf_str (by decide)) leaf_tup)
  rcases List.mem_cons.mp hz with rfl | hz
  · exact vok_t rfl (all2 dp_str dp_int) (fun S => all2 (leaf_str (by decide)) leaf_int)
  rcases List.mem_cons.mp hz with rfl | hz
  · exact vok_t rfl (all2 dp_str dp_int) (fun S => all2 (leaf_str (by decide)) leaf_int)
  rcases List.mem_cons.mp hz with rfl | hz
  · exact vok_t rfl (all2 dp_str dp_str) (fun S => all2 (leaf_str (by decide)) (leaf_str (by decide)))
  rcases List.mem_cons.mp hz with rfl | hz
  · exact ⟨rfl, dp_ref, .inr rfl⟩
  rcases List.mem_cons.mp hz with rfl | hz
  · exact vok_l rfl dp_str (fun S => leaf_str (by decide)) (fun _ z => by cases z)
  rcases List.mem_cons.mp hz with rfl | hz
  · exact vok_l rfl dp_int (fun S => leaf_int) (fun _ z => by cases z)
  rcases List.mem_cons.mp hz with rfl | hz
  · exact vok_l rfl dp_non (fun S => leaf_non) (fun _ z => by cases z)
  rcases List.mem_cons.mp hz with rfl | hz
  · exact vok_t rfl (fun e he => by cases he) (fun S e he => by cases he)
  rcases List.mem_cons.mp hz with rfl | hz
  · exact vok_t rfl (all2 dp_str dp_str) (fun S => all2 (leaf_str (by decide)) (leaf_str (by decide)))
  rcases List.mem_cons.mp hz with rfl | hz
  · exact vok_t rfl (all3 dp_str dp_str dp_str) (fun S => all3 (leaf_str (by decide)) (leaf_str (by decide)) (leaf_str (by decide)))
  rcases List.mem_cons.mp hz with rfl | hz
  · exact vok_t rfl (all1 (dp_tup (all1 dp_str))) (fun S => all1 leaf_tup)
  cases hz
theorem VOk.lf {nR : Nat} {z : D} {S : So} (h : VOk nR z) (hR : S[nR]? = some (.lst [.str "none"])) : Lf1 S z := by
  rcases h.2.2 with h | rfl
  · exact h S
  · refine lf1_of ⟨⟨.lst, ?_⟩, fun x e => by cases e⟩ (fun _ e => by cases e)
    unfold tyO
    simp only [hR]
def HOk (z : D) : Prop := (∀ ys, eventB (.tup (z :: ys)) = false) ∧ (∀ S, Lf1 S z) ∧ Dp 1 z
theorem h_all {z : D} (hz : z ∈ [D.str "gave", D.str "call", D.str "Gives", D.str "", D.int 0, D.non, D.tup [D.str "gives"], D.str "ask", D.str "give"]) : HOk z := by
  rcases List.mem_cons.mp hz with rfl | hz
  · exact ⟨fun ys => rfl, fun _ => lf1_of (leaf_str (by decide)) nt_str, dp_str⟩
  rcases List.mem_cons.mp hz with rfl | hz
  · exact ⟨fun ys => rfl, fun _ => lf1_of (leaf_str (by decide)) nt_str, dp_str⟩
  rcases List.mem_cons.mp hz with rfl | hz
  · exact ⟨fun ys => rfl, fun _ => lf1_of (leaf_str (by decide)) nt_str, dp_str⟩
  rcases List.mem_cons.mp hz with rfl | hz
  · exact ⟨fun ys => rfl, fun _ => lf1_of (leaf_str (by decide)) nt_str, dp_str⟩
  rcases List.mem_cons.mp hz with rfl | hz
  · exact ⟨fun ys => rfl, fun _ => lf1_of leaf_int nt_int, dp_int⟩
  rcases List.mem_cons.mp hz with rfl | hz
  · exact ⟨fun ys => rfl, fun _ => lf1_of leaf_non nt_non, dp_non⟩
  rcases List.mem_cons.mp hz with rfl | hz
  · exact ⟨fun ys => rfl, fun _ => lf1_tup (all1 (leaf_str (by decide))), (dp_tup (all1 dp_str))⟩
  rcases List.mem_cons.mp hz with rfl | hz
  · exact ⟨fun ys => rfl, fun _ => lf1_of (leaf_str (by decide)) nt_str, dp_str⟩
  rcases List.mem_cons.mp hz with rfl | hz
  · exact ⟨fun ys => rfl, fun _ => lf1_of (leaf_str (by decide)) nt_str, dp_str⟩
  cases hz
theorem Vl.ty {v : Vl} {S : So} : tyO S v.toD = some .tup := by cases v <;> rfl
def els : Ev → List D
  | .gives v => [.str "gives", v.toD]
  | .throws v => [.str "throws", v.toD]
  | .calls n v u => [.str "calls", .int n, v.toD, u.toD]
  | .asks w v u => [.str "asks", .str w, v.toD, u.toD]
theorem list_ev {e : Ev} {S : So} : listD [e.toD] S = .ok (.ref S.length) (S ++ [.lst (els e)]) := by cases e <;> rfl
theorem Lf2.one {S : So} {d : D} (h : Lf2 S d) (h2 : ∀ ds, d = .tup ds → ∀ e ∈ ds, Leaf S e) : Lf1 S d := ⟨h.1, h2⟩
theorem Ev.lf1 {S : So} {e : Ev} (h : e.Ok) : Lf1 S e.toD := by
  have := Ev.lf (S := S) h
  exact ⟨this.1, fun ds e x hx => (this.2 ds e x hx).1⟩
theorem ks {S : So} {x : Str} (h : x.length ≤ 1000) : Lf1 S (.str x) := lf1_of (leaf_str h) nt_str
theorem ki {S : So} {i : Int} : Lf1 S (.int i) := lf1_of leaf_int nt_int
section
variable {s t : Nat} {S : So}
theorem spoil {e : Ev} (he : e.Ok) (h : St s t S) : Wp (m_law_spoiled [.ref s, e.toD] S) (Pr s t S fun r S' => (∀ T, Lf2 (S' ++ T) r) ∧ eventB r = false ∧ Dp 5 r) := by
  unfold m_law_spoiled b_law_spoiled
  walk_at "go"
  refine (draw h (by decide) (by decide)).mono ?_
  rintro r S1 ⟨h1, k1, ch, rfl, hch⟩
  walk_at "go"
  refine (draw (St.app h1) (by decide) (by decide)).mono ?_
  rintro r S2 ⟨h2, k2, a2, rfl, ha2⟩
  obtain ⟨z1, hz1, e1⟩ := ix_mem (S := S2) (n := S1.length) (k := a2) (by rw [k2.2 _ (by have := h1.lt; omega)]; exact last_at) ha2.1 (by exact ha2.2)
  refine Wp.op2 e1 ?_
  walk_at "go"
  refine (draw (St.app h2) (by decide) (by decide)).mono ?_
  rintro r S3 ⟨h3, k3, a3, rfl, ha3⟩
  obtain ⟨z2, hz2, e2⟩ := ix_mem (S := S3) (n := S2.length) (k := a3) (by rw [k3.2 _ (by have := h2.lt; omega)]; exact last_at) ha3.1 (by exact ha3.2)
  refine Wp.op2 e2 ?_
  walk_at "go"
  have q1 := n1_all hz1
  have q2 := n2_all hz2
  refine Wp.opL (len_lst last_at) ?_
  walk_at "go"
  refine (draw (many := 17) (St.app (St.app h3)) (by decide) (by decide)).mono ?_
  rintro r S4 ⟨h4, k4, a4, rfl, ha4⟩
  have l3 := h3.lt
  have hR4 : S4[S3.length]? = some (.lst [.str "none"]) := by
    rw [k4.2 _ (by omega), List.getElem?_append_left (by simp)]
    exact last_at
  obtain ⟨z3, hz3, e3⟩ := ix_mem (S := S4) (n := (S3 ++ [O.lst [D.str "none"]]).length) (k := a4) (by rw [k4.2 _ (by rw [List.length_append]; omega)]; exact last_at) ha4.1 (by exact ha4.2)
  have q3 := v_all q1 q2 hz3
  refine Wp.op2 e3 ?_
  walk_at "go"
  refine Wp.opL len_ev ?_
  walk_at "go"
  have hel : 2 ≤ elen e ∧ elen e ≤ 4 := by cases e <;> exact ⟨Nat.le_of_ble_eq_true rfl, Nat.le_of_ble_eq_true rfl⟩
  refine (draw (many := (elen e : Int) - 1) h4 (by omega) (by omega)).mono ?_
  rintro r S5 ⟨h5, k5, a5, rfl, ha5⟩
  have g35 : Grw s S3 S5 := (Grw.app.trans (.trans .app (Grw.keep k4))).trans (Grw.keep k5)
  have g05 : Grw s S S5 := (Grw.keep k1).trans (.trans .app ((Grw.keep k2).trans (.trans .app ((Grw.keep k3).trans g35))))
  have hR : S5[S3.length]? = some (.lst [.str "none"]) := by
    rw [k5.2 _ (by omega)]
    exact hR4
  clear k5 hR4 e3 k4 h4 hz3 e2 e1 hz1 hz2 k3 k2 k1 g35 h1 h2 ha2 ha3 ha4
  generalize S3.length = nR at *
  have hlR : nR < S5.length := (List.getElem?_eq_some_iff.mp hR).1
  have hRT : ∀ T, (S5 ++ T)[nR]? = some (.lst [.str "none"]) := fun T => (List.getElem?_append_left hlR).trans hR
  walk_at "go"
  refine ⟨fun hc => ?_, fun hc0 => ?_⟩
  · walk_at "go"
    refine Wp.opL list_ev ?_
    walk_at "go"
    refine (draw (many := 9) (St.app (St.app (St.app h5))) (by decide) (by decide)).mono ?_
    rintro r S6 ⟨h6, k6, a6, rfl, ha6⟩
    have l5 := h5.lt
    obtain ⟨z, hz, e6⟩ := ix_mem (S := S6) (n := ((S5 ++ [O.lst (els e)]) ++ [O.dct []]).length) (k := a6) (by rw [k6.2 _ (by simp only [List.length_append]; omega)]; exact last_at) ha6.1 (by exact ha6.2)
    refine Wp.op2 e6 ?_
    walk_at "go"
    have x1 : S6[S5.length]? = some (.lst (els e)) := by
      rw [k6.2 _ (by omega), List.getElem?_append_left (by simp only [List.length_append]; simp; omega), List.getElem?_append_left (by simp only [List.length_append]; simp)]
      exact last_at
    have x2 : S6[(S5 ++ [O.lst (els e)]).length]? = some (.dct []) := by
      rw [k6.2 _ (by simp only [List.length_append]; omega), List.getElem?_append_left (by simp only [List.length_append]; simp)]
      exact last_at
    have y1 := (List.getElem?_eq_some_iff.mp x1).1
    have y2 := (List.getElem?_eq_some_iff.mp x2).1
    refine ⟨h6, g05.trans (.trans .app (.trans .app (.trans .app (Grw.keep k6)))), ?_⟩
    rcases List.mem_cons.mp hz with rfl | hz
    · refine ⟨fun T => lf2_of ⟨⟨.lst, ?_⟩, fun x e => by cases e⟩ nt_ref, rfl, dp_ref⟩
      unfold tyO
      simp only [(List.getElem?_append_left y1).trans x1]
    rcases List.mem_cons.mp hz with rfl | hz
    · refine ⟨fun T => lf2_of ⟨⟨.dct, ?_⟩, fun x e => by cases e⟩ nt_ref, rfl, dp_ref⟩
      unfold tyO
      simp only [(List.getElem?_append_left y2).trans x2]
    rcases List.mem_cons.mp hz with rfl | hz
    · exact ⟨fun T => lf2_of leaf_non nt_non, rfl, dp_non⟩
    rcases List.mem_cons.mp hz with rfl | hz
    · exact ⟨fun T => lf2_of (leaf_str (by decide)) nt_str, rfl, dp_str⟩
    rcases List.mem_cons.mp hz with rfl | hz
    · exact ⟨fun T => lf2_of leaf_int nt_int, rfl, dp_int⟩
    rcases List.mem_cons.mp hz with rfl | hz
    · exact ⟨fun T => lf2_tup (fun e he => by cases he), rfl, dp_nil⟩
    rcases List.mem_cons.mp hz with rfl | hz
    · exact ⟨fun T => lf2_of leaf_bl nt_bl, rfl, dp_bl⟩
    rcases List.mem_cons.mp hz with rfl | hz
    · exact ⟨fun T => lf2_tup (all1 (ks (by decide))), rfl, dp_tup (all1 dp_str)⟩
    rcases List.mem_cons.mp hz with rfl | hz
    · refine ⟨fun T => lf2_tup (all1 (Ev.lf1 he)), by cases e <;> rfl, dp_tup (all1 Ev.dp.up)⟩
    cases hz
  · cases e with
    | gives v =>
      dsimp only [Ev.toD]
      obtain rfl : a5 = 0 := by
        have : (elen (Ev.gives v) : Int) = 2 := rfl
        omega
      walk_at "go"
      refine ⟨fun hc1 => ?_, fun hc1 => ?_⟩
      · walk_at "go"
        refine Wp.ok rfl ?_
        walk_at "go"
        refine Wp.ok rfl ?_
        walk_at "go"
        exact ⟨h5, g05, fun T => lf2_tup (all1 (ks (by decide))), rfl, dp_tup (all1 dp_str)⟩
      · walk_at "go"
        refine ⟨fun hc2 => ?_, fun hc2 => ?_⟩
        · walk_at "go"
          exact ⟨h5, g05, fun T => lf2_tup (all3 (ks (by decide)) (Vl.lf he) (lf1_tup (all1 (leaf_str (by decide))))), rfl, dp_tup (all3 dp_str Vl.dp.up.up (dp_tup (all1 dp_str)))⟩
        · walk_at "go"
          refine ⟨fun hc3 => ?_, fun hc3 => ?_⟩
          · walk_at "go"
            refine (draw (many := 9) (St.app h5) (by decide) (by decide)).mono ?_
            rintro r S6 ⟨h6, k6, a6, rfl, ha6⟩
            obtain ⟨z, hz, e6⟩ := ix_mem (S := S6) (n := S5.length) (k := a6) (by rw [k6.2 _ (by omega)]; exact last_at) ha6.1 (by exact ha6.2)
            have hz := h_all hz
            refine Wp.op2 e6 ?_
            walk_at "go"
            refine Wp.ok rfl ?_
            walk_at "go"
            exact ⟨h6, g05.trans (.trans .app (Grw.keep k6)), fun T => lf2_tup (all2 (hz.2.1 _) (Vl.lf he)), hz.1 _, dp_tup (all2 hz.2.2.up.up.up Vl.dp.up.up)⟩
          · walk_at "go"
            refine ⟨fun hc4 => ?_, fun hc4 => ?_⟩
            · walk_at "go"
              refine ⟨.tup, Vl.ty, ?_⟩
              walk_at "go"
              refine Wp.ok rfl ?_
              walk_at "go"
              refine Wp.ok rfl ?_
              walk_at "go"
              exact ⟨h5, g05, fun T => lf2_tup (all2 (ks (by decide)) (q3.lf (hRT T))), eb_gives.trans q3.1, dp_tup (all2 dp_str q3.2.1.up.up)⟩
            · walk_at "go"
              refine Wp.bf hc4 ?_
              walk_at "go"
              exact ⟨h5, g05, fun T => lf2_tup (all2 (ks (by decide)) (q3.lf (hRT T))), eb_gives.trans q3.1, dp_tup (all2 dp_str q3.2.1.up.up)⟩
    | throws v =>
      dsimp only [Ev.toD]
      obtain rfl : a5 = 0 := by
        have : (elen (Ev.throws v) : Int) = 2 := rfl
        omega
      walk_at "go"
      refine ⟨fun hc1 => ?_, fun hc1 => ?_⟩
      · walk_at "go"
        refine Wp.ok rfl ?_
        walk_at "go"
        refine Wp.ok rfl ?_
        walk_at "go"
        exact ⟨h5, g05, fun T => lf2_tup (all1 (ks (by decide))), rfl, dp_tup (all1 dp_str)⟩
      · walk_at "go"
        refine ⟨fun hc2 => ?_, fun hc2 => ?_⟩
        · walk_at "go"
          exact ⟨h5, g05, fun T => lf2_tup (all3 (ks (by decide)) (Vl.lf he) (lf1_tup (all1 (leaf_str (by decide))))), rfl, dp_tup (all3 dp_str Vl.dp.up.up (dp_tup (all1 dp_str)))⟩
        · walk_at "go"
          refine ⟨fun hc3 => ?_, fun hc3 => ?_⟩
          · walk_at "go"
            refine (draw (many := 9) (St.app h5) (by decide) (by decide)).mono ?_
            rintro r S6 ⟨h6, k6, a6, rfl, ha6⟩
            obtain ⟨z, hz, e6⟩ := ix_mem (S := S6) (n := S5.length) (k := a6) (by rw [k6.2 _ (by omega)]; exact last_at) ha6.1 (by exact ha6.2)
            have hz := h_all hz
            refine Wp.op2 e6 ?_
            walk_at "go"
            refine Wp.ok rfl ?_
            walk_at "go"
            exact ⟨h6, g05.trans (.trans .app (Grw.keep k6)), fun T => lf2_tup (all2 (hz.2.1 _) (Vl.lf he)), hz.1 _, dp_tup (all2 hz.2.2.up.up.up Vl.dp.up.up)⟩
          · walk_at "go"
            refine ⟨fun hc4 => ?_, fun hc4 => ?_⟩
            · walk_at "go"
              refine ⟨.tup, Vl.ty, ?_⟩
              walk_at "go"
              refine Wp.ok rfl ?_
              walk_at "go"
              refine Wp.ok rfl ?_
              walk_at "go"
              exact ⟨h5, g05, fun T => lf2_tup (all2 (ks (by decide)) (q3.lf (hRT T))), eb_throws.trans q3.1, dp_tup (all2 dp_str q3.2.1.up.up)⟩
            · walk_at "go"
              refine Wp.bf hc4 ?_
              walk_at "go"
              exact ⟨h5, g05, fun T => lf2_tup (all2 (ks (by decide)) (q3.lf (hRT T))), eb_throws.trans q3.1, dp_tup (all2 dp_str q3.2.1.up.up)⟩
    | calls n v u =>
      dsimp only [Ev.toD]
      obtain ⟨o1, o2, o3⟩ := he
      have : a5 = 0 ∨ a5 = 1 ∨ a5 = 2 := by
        have : (elen (Ev.calls n v u) : Int) = 4 := rfl
        omega
      rcases this with rfl | rfl | rfl
      · walk_at "go"
        refine ⟨fun hc1 => ?_, fun hc1 => ?_⟩
        · walk_at "go"
          refine Wp.ok rfl ?_
          walk_at "go"
          refine Wp.ok rfl ?_
          walk_at "go"
          exact ⟨h5, g05, fun T => lf2_tup (all3 (ks (by decide)) (Vl.lf o2) (Vl.lf o3)), rfl, dp_tup (all3 dp_str Vl.dp.up.up Vl.dp.up.up)⟩
        · walk_at "go"
          refine ⟨fun hc2 => ?_, fun hc2 => ?_⟩
          · walk_at "go"
            exact ⟨h5, g05, fun T => lf2_tup (all5 (ks (by decide)) ki (Vl.lf o2) (Vl.lf o3) (lf1_tup (all1 (leaf_str (by decide))))), rfl, dp_tup (all5 dp_str dp_int Vl.dp.up.up Vl.dp.up.up (dp_tup (all1 dp_str)))⟩
          · walk_at "go"
            refine ⟨fun hc3 => ?_, fun hc3 => ?_⟩
            · walk_at "go"
              refine (draw (many := 9) (St.app h5) (by decide) (by decide)).mono ?_
              rintro r S6 ⟨h6, k6, a6, rfl, ha6⟩
              obtain ⟨z, hz, e6⟩ := ix_mem (S := S6) (n := S5.length) (k := a6) (by rw [k6.2 _ (by omega)]; exact last_at) ha6.1 (by exact ha6.2)
              have hz := h_all hz
              refine Wp.op2 e6 ?_
              walk_at "go"
              refine Wp.ok rfl ?_
              walk_at "go"
              exact ⟨h6, g05.trans (.trans .app (Grw.keep k6)), fun T => lf2_tup (all4 (hz.2.1 _) ki (Vl.lf o2) (Vl.lf o3)), hz.1 _, dp_tup (all4 hz.2.2.up.up.up dp_int Vl.dp.up.up Vl.dp.up.up)⟩
            · walk_at "go"
              refine ⟨fun hc4 => ?_, fun hc4 => ?_⟩
              · walk_at "go"
                refine ⟨fun hc5 => ?_, fun hc5 => ?_⟩
                · walk_at "go"
                  refine Wp.ok rfl ?_
                  walk_at "go"
                  exact ⟨h5, g05, fun T => lf2_tup (all4 (ks (by decide)) (q1.2.1 _) (Vl.lf o2) (Vl.lf o3)), eb_calls.trans (by rw [q1.1]; rfl), dp_tup (all4 dp_str q1.2.2.up.up.up Vl.dp.up.up Vl.dp.up.up)⟩
                · rw [hc4] at hc5
                  cases hc5
              · walk_at "go"
                refine Wp.bf hc4 ?_
                walk_at "go"
                exact ⟨h5, g05, fun T => lf2_tup (all4 (ks (by decide)) (q1.2.1 _) (q3.lf (hRT T)) (Vl.lf o3)), eb_calls.trans (by rw [q1.1]; rfl), dp_tup (all4 dp_str q1.2.2.up.up.up q3.2.1.up.up Vl.dp.up.up)⟩
      · walk_at "go"
        refine ⟨fun hc1 => ?_, fun hc1 => ?_⟩
        · walk_at "go"
          refine Wp.ok rfl ?_
          walk_at "go"
          refine Wp.ok rfl ?_
          walk_at "go"
          exact ⟨h5, g05, fun T => lf2_tup (all3 (ks (by decide)) ki (Vl.lf o3)), rfl, dp_tup (all3 dp_str dp_int Vl.dp.up.up)⟩
        · walk_at "go"
          refine ⟨fun hc2 => ?_, fun hc2 => ?_⟩
          · walk_at "go"
            exact ⟨h5, g05, fun T => lf2_tup (all5 (ks (by decide)) ki (Vl.lf o2) (Vl.lf o3) (lf1_tup (all1 (leaf_str (by decide))))), rfl, dp_tup (all5 dp_str dp_int Vl.dp.up.up Vl.dp.up.up (dp_tup (all1 dp_str)))⟩
          · walk_at "go"
            refine ⟨fun hc3 => ?_, fun hc3 => ?_⟩
            · walk_at "go"
              refine (draw (many := 9) (St.app h5) (by decide) (by decide)).mono ?_
              rintro r S6 ⟨h6, k6, a6, rfl, ha6⟩
              obtain ⟨z, hz, e6⟩ := ix_mem (S := S6) (n := S5.length) (k := a6) (by rw [k6.2 _ (by omega)]; exact last_at) ha6.1 (by exact ha6.2)
              have hz := h_all hz
              refine Wp.op2 e6 ?_
              walk_at "go"
              refine Wp.ok rfl ?_
              walk_at "go"
              exact ⟨h6, g05.trans (.trans .app (Grw.keep k6)), fun T => lf2_tup (all4 (hz.2.1 _) ki (Vl.lf o2) (Vl.lf o3)), hz.1 _, dp_tup (all4 hz.2.2.up.up.up dp_int Vl.dp.up.up Vl.dp.up.up)⟩
            · walk_at "go"
              refine ⟨fun hc4 => ?_, fun hc4 => ?_⟩
              · walk_at "go"
                refine ⟨.tup, Vl.ty, ?_⟩
                walk_at "go"
                refine Wp.ok rfl ?_
                walk_at "go"
                refine Wp.ok rfl ?_
                walk_at "go"
                exact ⟨h5, g05, fun T => lf2_tup (all4 (ks (by decide)) ki (q3.lf (hRT T)) (Vl.lf o3)), eb_calls.trans (by rw [q3.1]; simp), dp_tup (all4 dp_str dp_int q3.2.1.up.up Vl.dp.up.up)⟩
              · walk_at "go"
                refine Wp.bf hc4 ?_
                walk_at "go"
                exact ⟨h5, g05, fun T => lf2_tup (all4 (ks (by decide)) (q1.2.1 _) (q3.lf (hRT T)) (Vl.lf o3)), eb_calls.trans (by rw [q1.1]; rfl), dp_tup (all4 dp_str q1.2.2.up.up.up q3.2.1.up.up Vl.dp.up.up)⟩
      · walk_at "go"
        refine ⟨fun hc1 => ?_, fun hc1 => ?_⟩
        · walk_at "go"
          refine Wp.ok rfl ?_
          walk_at "go"
          refine Wp.ok rfl ?_
          walk_at "go"
          exact ⟨h5, g05, fun T => lf2_tup (all3 (ks (by decide)) ki (Vl.lf o2)), rfl, dp_tup (all3 dp_str dp_int Vl.dp.up.up)⟩
        · walk_at "go"
          refine ⟨fun hc2 => ?_, fun hc2 => ?_⟩
          · walk_at "go"
            exact ⟨h5, g05, fun T => lf2_tup (all5 (ks (by decide)) ki (Vl.lf o2) (Vl.lf o3) (lf1_tup (all1 (leaf_str (by decide))))), rfl, dp_tup (all5 dp_str dp_int Vl.dp.up.up Vl.dp.up.up (dp_tup (all1 dp_str)))⟩
          · walk_at "go"
            refine ⟨fun hc3 => ?_, fun hc3 => ?_⟩
            · walk_at "go"
              refine (draw (many := 9) (St.app h5) (by decide) (by decide)).mono ?_
              rintro r S6 ⟨h6, k6, a6, rfl, ha6⟩
              obtain ⟨z, hz, e6⟩ := ix_mem (S := S6) (n := S5.length) (k := a6) (by rw [k6.2 _ (by omega)]; exact last_at) ha6.1 (by exact ha6.2)
              have hz := h_all hz
              refine Wp.op2 e6 ?_
              walk_at "go"
              refine Wp.ok rfl ?_
              walk_at "go"
              exact ⟨h6, g05.trans (.trans .app (Grw.keep k6)), fun T => lf2_tup (all4 (hz.2.1 _) ki (Vl.lf o2) (Vl.lf o3)), hz.1 _, dp_tup (all4 hz.2.2.up.up.up dp_int Vl.dp.up.up Vl.dp.up.up)⟩
            · walk_at "go"
              refine ⟨fun hc4 => ?_, fun hc4 => ?_⟩
              · walk_at "go"
                refine ⟨.tup, Vl.ty, ?_⟩
                walk_at "go"
                refine Wp.ok rfl ?_
                walk_at "go"
                refine Wp.ok rfl ?_
                walk_at "go"
                exact ⟨h5, g05, fun T => lf2_tup (all4 (ks (by decide)) ki (Vl.lf o2) (q3.lf (hRT T))), eb_calls.trans (by rw [q3.1]; simp), dp_tup (all4 dp_str dp_int Vl.dp.up.up q3.2.1.up.up)⟩
              · walk_at "go"
                refine Wp.bf hc4 ?_
                walk_at "go"
                exact ⟨h5, g05, fun T => lf2_tup (all4 (ks (by decide)) (q1.2.1 _) (q3.lf (hRT T)) (Vl.lf o3)), eb_calls.trans (by rw [q1.1]; rfl), dp_tup (all4 dp_str q1.2.2.up.up.up q3.2.1.up.up Vl.dp.up.up)⟩
    | asks w v u =>
      dsimp only [Ev.toD]
      obtain ⟨o1, o2, o3⟩ := he
      have : a5 = 0 ∨ a5 = 1 ∨ a5 = 2 := by
        have : (elen (Ev.asks w v u) : Int) = 4 := rfl
        omega
      rcases this with rfl | rfl | rfl
      · walk_at "go"
        refine ⟨fun hc1 => ?_, fun hc1 => ?_⟩
        · walk_at "go"
          refine Wp.ok rfl ?_
          walk_at "go"
          refine Wp.ok rfl ?_
          walk_at "go"
          exact ⟨h5, g05, fun T => lf2_tup (all3 (ks (by decide)) (Vl.lf o2) (Vl.lf o3)), rfl, dp_tup (all3 dp_str Vl.dp.up.up Vl.dp.up.up)⟩
        · walk_at "go"
          refine ⟨fun hc2 => ?_, fun hc2 => ?_⟩
          · walk_at "go"
            exact ⟨h5, g05, fun T => lf2_tup (all5 (ks (by decide)) (ks (Nat.le_trans (okW.len o1).2 (by decide))) (Vl.lf o2) (Vl.lf o3) (lf1_tup (all1 (leaf_str (by decide))))), rfl, dp_tup (all5 dp_str dp_str Vl.dp.up.up Vl.dp.up.up (dp_tup (all1 dp_str)))⟩
          · walk_at "go"
            refine ⟨fun hc3 => ?_, fun hc3 => ?_⟩
            · walk_at "go"
              refine (draw (many := 9) (St.app h5) (by decide) (by decide)).mono ?_
              rintro r S6 ⟨h6, k6, a6, rfl, ha6⟩
              obtain ⟨z, hz, e6⟩ := ix_mem (S := S6) (n := S5.length) (k := a6) (by rw [k6.2 _ (by omega)]; exact last_at) ha6.1 (by exact ha6.2)
              have hz := h_all hz
              refine Wp.op2 e6 ?_
              walk_at "go"
              refine Wp.ok rfl ?_
              walk_at "go"
              exact ⟨h6, g05.trans (.trans .app (Grw.keep k6)), fun T => lf2_tup (all4 (hz.2.1 _) (ks (Nat.le_trans (okW.len o1).2 (by decide))) (Vl.lf o2) (Vl.lf o3)), hz.1 _, dp_tup (all4 hz.2.2.up.up.up dp_str Vl.dp.up.up Vl.dp.up.up)⟩
            · walk_at "go"
              refine ⟨fun hc4 => ?_, fun hc4 => ?_⟩
              · walk_at "go"
                refine ⟨fun hc5 => ?_, fun hc5 => ?_⟩
                · walk_at "go"
                  refine Wp.ok rfl ?_
                  walk_at "go"
                  exact ⟨h5, g05, fun T => lf2_tup (all4 (ks (by decide)) (q2.2.1 _) (Vl.lf o2) (Vl.lf o3)), eb_asks.trans (by rw [q2.1]; rfl), dp_tup (all4 dp_str q2.2.2.up.up.up Vl.dp.up.up Vl.dp.up.up)⟩
                · rw [hc4] at hc5
                  cases hc5
              · walk_at "go"
                refine Wp.bf hc4 ?_
                walk_at "go"
                refine Wp.ok rfl ?_
                walk_at "go"
                exact ⟨h5, g05, fun T => lf2_tup (all4 (ks (by decide)) (q2.2.1 _) (Vl.lf o2) (Vl.lf o3)), eb_asks.trans (by rw [q2.1]; rfl), dp_tup (all4 dp_str q2.2.2.up.up.up Vl.dp.up.up Vl.dp.up.up)⟩
      · walk_at "go"
        refine ⟨fun hc1 => ?_, fun hc1 => ?_⟩
        · walk_at "go"
          refine Wp.ok rfl ?_
          walk_at "go"
          refine Wp.ok rfl ?_
          walk_at "go"
          exact ⟨h5, g05, fun T => lf2_tup (all3 (ks (by decide)) (ks (Nat.le_trans (okW.len o1).2 (by decide))) (Vl.lf o3)), rfl, dp_tup (all3 dp_str dp_str Vl.dp.up.up)⟩
        · walk_at "go"
          refine ⟨fun hc2 => ?_, fun hc2 => ?_⟩
          · walk_at "go"
            exact ⟨h5, g05, fun T => lf2_tup (all5 (ks (by decide)) (ks (Nat.le_trans (okW.len o1).2 (by decide))) (Vl.lf o2) (Vl.lf o3) (lf1_tup (all1 (leaf_str (by decide))))), rfl, dp_tup (all5 dp_str dp_str Vl.dp.up.up Vl.dp.up.up (dp_tup (all1 dp_str)))⟩
          · walk_at "go"
            refine ⟨fun hc3 => ?_, fun hc3 => ?_⟩
            · walk_at "go"
              refine (draw (many := 9) (St.app h5) (by decide) (by decide)).mono ?_
              rintro r S6 ⟨h6, k6, a6, rfl, ha6⟩
              obtain ⟨z, hz, e6⟩ := ix_mem (S := S6) (n := S5.length) (k := a6) (by rw [k6.2 _ (by omega)]; exact last_at) ha6.1 (by exact ha6.2)
              have hz := h_all hz
              refine Wp.op2 e6 ?_
              walk_at "go"
              refine Wp.ok rfl ?_
              walk_at "go"
              exact ⟨h6, g05.trans (.trans .app (Grw.keep k6)), fun T => lf2_tup (all4 (hz.2.1 _) (ks (Nat.le_trans (okW.len o1).2 (by decide))) (Vl.lf o2) (Vl.lf o3)), hz.1 _, dp_tup (all4 hz.2.2.up.up.up dp_str Vl.dp.up.up Vl.dp.up.up)⟩
            · walk_at "go"
              refine ⟨fun hc4 => ?_, fun hc4 => ?_⟩
              · walk_at "go"
                refine ⟨.tup, Vl.ty, ?_⟩
                walk_at "go"
                refine Wp.ok rfl ?_
                walk_at "go"
                refine Wp.ok rfl ?_
                walk_at "go"
                exact ⟨h5, g05, fun T => lf2_tup (all4 (ks (by decide)) (ks (Nat.le_trans (okW.len o1).2 (by decide))) (q3.lf (hRT T)) (Vl.lf o3)), eb_asks.trans (by rw [q3.1]; simp), dp_tup (all4 dp_str dp_str q3.2.1.up.up Vl.dp.up.up)⟩
              · walk_at "go"
                refine Wp.bf hc4 ?_
                walk_at "go"
                refine Wp.ok rfl ?_
                walk_at "go"
                exact ⟨h5, g05, fun T => lf2_tup (all4 (ks (by decide)) (q2.2.1 _) (Vl.lf o2) (Vl.lf o3)), eb_asks.trans (by rw [q2.1]; rfl), dp_tup (all4 dp_str q2.2.2.up.up.up Vl.dp.up.up Vl.dp.up.up)⟩
      · walk_at "go"
        refine ⟨fun hc1 => ?_, fun hc1 => ?_⟩
        · walk_at "go"
          refine Wp.ok rfl ?_
          walk_at "go"
          refine Wp.ok rfl ?_
          walk_at "go"
          exact ⟨h5, g05, fun T => lf2_tup (all3 (ks (by decide)) (ks (Nat.le_trans (okW.len o1).2 (by decide))) (Vl.lf o2)), rfl, dp_tup (all3 dp_str dp_str Vl.dp.up.up)⟩
        · walk_at "go"
          refine ⟨fun hc2 => ?_, fun hc2 => ?_⟩
          · walk_at "go"
            exact ⟨h5, g05, fun T => lf2_tup (all5 (ks (by decide)) (ks (Nat.le_trans (okW.len o1).2 (by decide))) (Vl.lf o2) (Vl.lf o3) (lf1_tup (all1 (leaf_str (by decide))))), rfl, dp_tup (all5 dp_str dp_str Vl.dp.up.up Vl.dp.up.up (dp_tup (all1 dp_str)))⟩
          · walk_at "go"
            refine ⟨fun hc3 => ?_, fun hc3 => ?_⟩
            · walk_at "go"
              refine (draw (many := 9) (St.app h5) (by decide) (by decide)).mono ?_
              rintro r S6 ⟨h6, k6, a6, rfl, ha6⟩
              obtain ⟨z, hz, e6⟩ := ix_mem (S := S6) (n := S5.length) (k := a6) (by rw [k6.2 _ (by omega)]; exact last_at) ha6.1 (by exact ha6.2)
              have hz := h_all hz
              refine Wp.op2 e6 ?_
              walk_at "go"
              refine Wp.ok rfl ?_
              walk_at "go"
              exact ⟨h6, g05.trans (.trans .app (Grw.keep k6)), fun T => lf2_tup (all4 (hz.2.1 _) (ks (Nat.le_trans (okW.len o1).2 (by decide))) (Vl.lf o2) (Vl.lf o3)), hz.1 _, dp_tup (all4 hz.2.2.up.up.up dp_str Vl.dp.up.up Vl.dp.up.up)⟩
            · walk_at "go"
              refine ⟨fun hc4 => ?_, fun hc4 => ?_⟩
              · walk_at "go"
                refine ⟨.tup, Vl.ty, ?_⟩
                walk_at "go"
                refine Wp.ok rfl ?_
                walk_at "go"
                refine Wp.ok rfl ?_
                walk_at "go"
                exact ⟨h5, g05, fun T => lf2_tup (all4 (ks (by decide)) (ks (Nat.le_trans (okW.len o1).2 (by decide))) (Vl.lf o2) (q3.lf (hRT T))), eb_asks.trans (by rw [q3.1]; simp), dp_tup (all4 dp_str dp_str Vl.dp.up.up q3.2.1.up.up)⟩
              · walk_at "go"
                refine Wp.bf hc4 ?_
                walk_at "go"
                refine Wp.ok rfl ?_
                walk_at "go"
                exact ⟨h5, g05, fun T => lf2_tup (all4 (ks (by decide)) (q2.2.1 _) (Vl.lf o2) (Vl.lf o3)), eb_asks.trans (by rw [q2.1]; rfl), dp_tup (all4 dp_str q2.2.2.up.up.up Vl.dp.up.up Vl.dp.up.up)⟩
end
end Mkk85
namespace Mkk85
open PySem Mi
theorem app_inj {a b : Str} : a.cps.toList = b.cps.toList → a = b := by
  intro h
  cases a
  cases b
  congr 1
  exact Array.ext' h
theorem cps_app (a b : Str) : (a ++ b).cps.toList = a.cps.toList ++ b.cps.toList := by
  show (a.cps ++ b.cps).toList = _
  simp
theorem split32 : ∀ {a1 a2 b1 b2 : List Nat}, 32 ∉ a1 → 32 ∉ a2 → a1 ++ 32 :: b1 = a2 ++ 32 :: b2 → a1 = a2 ∧ b1 = b2
  | [], [], b1, b2, _, _, h => ⟨rfl, (List.cons.inj h).2⟩
  | [], c :: a2, b1, b2, _, h2, h => by
    have := (List.cons.inj h).1
    exact absurd (this ▸ List.mem_cons_self) h2
  | c :: a1, [], b1, b2, h1, _, h => by
    have := (List.cons.inj h).1
    exact absurd (this ▸ List.mem_cons_self) h1
  | c :: a1, d :: a2, b1, b2, h1, h2, h => by
    obtain ⟨e1, e2⟩ := List.cons.inj h
    obtain ⟨e3, e4⟩ := split32 (fun z => h1 (List.mem_cons_of_mem _ z)) (fun z => h2 (List.mem_cons_of_mem _ z)) e2
    exact ⟨by rw [e1, e3], e4⟩
def dg (n : Int) : List Nat := (nt n).cps.toList
theorem dg32 (n : Int) : 32 ∉ dg n := PyProof.Rows.int_text_free' 32 ⟨by decide, by decide⟩ n
theorem dg_inj {n m : Int} (h1 : okN n) (h2 : okN m) (h : dg n = dg m) : n = m := by
  have e : nt n = nt m := app_inj h
  have r1 := PySem.W.KIN.num_reads h1.1 (by have := h1.2; omega : n < 10 ^ 10)
  have r2 := PySem.W.KIN.num_reads h2.1 (by have := h2.2; omega : m < 10 ^ 10)
  have e' : PySem.Str.ofString (toString n) = PySem.Str.ofString (toString m) := e
  rw [e'] at r1
  exact (Option.some.inj (r1.symm.trans r2))
def vt (v : Vl) : List Nat := (vtext v).cps.toList
theorem vt_none : vt .none = [110, 111, 110, 101] := by decide
theorem vt_me : vt .me = [109, 101] := by decide
theorem vt_oth (n : Int) : vt (.oth n) = [111, 116, 104, 101, 114, 32] ++ dg n := by
  show ((Str.empty ++ ("other " : Str)) ++ nt n).cps.toList = _
  rw [cps_app]
  rfl
theorem vt_wrd (w : Str) : vt (.wrd w) = 39 :: w.cps.toList := by
  show (("'" : Str) ++ w).cps.toList = _
  rw [cps_app]
  rfl
theorem vt_inj {v u : Vl} (hv : v.Ok) (hu : u.Ok) (h : vt v = vt u) : v = u := by
  cases v <;> cases u <;> simp only [vt_none, vt_me, vt_oth, vt_wrd, List.cons_append, List.nil_append, List.cons.injEq] at h <;> first
    | rfl
    | (exfalso; revert h; simp; done)
    | (simp only [true_and] at h; rw [dg_inj hv hu h])
    | (simp only [true_and] at h; rw [app_inj h])
theorem vt_cat {v u : Vl} {r1 r2 : List Nat} (hv : v.Ok) (hu : u.Ok) (h : vt v ++ 32 :: r1 = vt u ++ 32 :: r2) : v = u ∧ r1 = r2 := by
  cases v <;> cases u <;> simp only [vt_none, vt_me, vt_oth, vt_wrd, List.cons_append, List.nil_append, List.cons.injEq] at h
  case oth.oth n m =>
    simp only [true_and] at h
    obtain ⟨a, b⟩ := split32 (dg32 n) (dg32 m) h
    exact ⟨by rw [dg_inj hv hu a], b⟩
  case wrd.wrd w x =>
    simp only [true_and] at h
    obtain ⟨a, b⟩ := split32 hv.2 hu.2 h
    exact ⟨by rw [app_inj a], b⟩
  case none.none =>
    simp only [true_and] at h
    exact ⟨rfl, h⟩
  case me.me =>
    simp only [true_and] at h
    exact ⟨rfl, h⟩
  all_goals (exfalso; revert h; simp; done)
def et (e : Ev) : List Nat := (etext e).cps.toList
theorem et_gives (v : Vl) : et (.gives v) = [103, 105, 118, 101, 115, 32] ++ vt v := by
  show ((("gives" : Str) ++ (" " : Str)) ++ vtext v).cps.toList = _
  rw [cps_app]
  rfl
theorem et_throws (v : Vl) : et (.throws v) = [116, 104, 114, 111, 119, 115, 32] ++ vt v := by
  show ((("throws" : Str) ++ (" " : Str)) ++ vtext v).cps.toList = _
  rw [cps_app]
  rfl
theorem et_calls (n : Int) (v u : Vl) : et (.calls n v u) = [99, 97, 108, 108, 115, 32] ++ (dg n ++ 32 :: (vt v ++ 32 :: vt u)) := by
  show (((((((Str.empty ++ ("calls" : Str)) ++ (" " : Str)) ++ nt n) ++ (" " : Str)) ++ vtext v) ++ (" " : Str)) ++ vtext u).cps.toList = _
  rw [cps_app, cps_app, cps_app, cps_app, cps_app]
  have h1 : ((Str.empty ++ ("calls" : Str)) ++ (" " : Str)).cps.toList = [99, 97, 108, 108, 115, 32] := by decide
  have h2 : (" " : Str).cps.toList = [32] := by decide
  rw [h1, h2]
  show _ = [99, 97, 108, 108, 115, 32] ++ ((nt n).cps.toList ++ 32 :: ((vtext v).cps.toList ++ 32 :: (vtext u).cps.toList))
  simp only [List.append_assoc, List.cons_append, List.nil_append]
theorem et_asks (w : Str) (v u : Vl) : et (.asks w v u) = [97, 115, 107, 115, 32] ++ (w.cps.toList ++ 32 :: (vt v ++ 32 :: vt u)) := by
  show (((((((Str.empty ++ ("asks" : Str)) ++ (" " : Str)) ++ w) ++ (" " : Str)) ++ vtext v) ++ (" " : Str)) ++ vtext u).cps.toList = _
  rw [cps_app, cps_app, cps_app, cps_app, cps_app]
  have h1 : ((Str.empty ++ ("asks" : Str)) ++ (" " : Str)).cps.toList = [97, 115, 107, 115, 32] := by decide
  have h2 : (" " : Str).cps.toList = [32] := by decide
  rw [h1, h2]
  show _ = [97, 115, 107, 115, 32] ++ (w.cps.toList ++ 32 :: ((vtext v).cps.toList ++ 32 :: (vtext u).cps.toList))
  simp only [List.append_assoc, List.cons_append, List.nil_append]
theorem et_inj {a b : Ev} (ha : a.Ok) (hb : b.Ok) (h : etext a = etext b) : a = b := by
  have h : et a = et b := by unfold et; rw [h]
  cases a <;> cases b <;> simp only [et_gives, et_throws, et_calls, et_asks, List.cons_append, List.nil_append, List.cons.injEq] at h
  case gives.gives v u =>
    simp only [true_and] at h
    rw [vt_inj ha hb h]
  case throws.throws v u =>
    simp only [true_and] at h
    rw [vt_inj ha hb h]
  case calls.calls n v u n' v' u' =>
    simp only [true_and] at h
    obtain ⟨h1, h2⟩ := split32 (dg32 _) (dg32 _) h
    obtain ⟨h3, h4⟩ := vt_cat ha.2.1 hb.2.1 h2
    rw [dg_inj ha.1 hb.1 h1, h3, vt_inj ha.2.2 hb.2.2 h4]
  case asks.asks w v u w' v' u' =>
    simp only [true_and] at h
    obtain ⟨h1, h2⟩ := split32 ha.1.2 hb.1.2 h
    obtain ⟨h3, h4⟩ := vt_cat ha.2.1 hb.2.1 h2
    rw [app_inj h1, h3, vt_inj ha.2.2 hb.2.2 h4]
  all_goals (exfalso; revert h; simp; done)
end Mkk85
namespace Mkk85
open PySem Mi
def lawTail : MS := mSeq (mAsg (mCall m_law_told 1 [] (mConsA (mVar 3) (mNilA))) (bN 5)) (mSeq (mAsg (mCall m_law_told 1 [] (mConsA (mVar 4) (mNilA))) (bN 6)) (mSeq (mIf (mOr (mB (m2 neD (mVar 5) (mLst (mConsA (mC (.str "told")) (mConsA (mCall m_law_due 1 [] (mConsA (mVar 3) (mNilA))) (mNilA)))))) (mB (m2 neD (mVar 6) (mLst (mConsA (mC (.str "told")) (mConsA (mCall m_law_due 1 [] (mConsA (mVar 4) (mNilA))) (mNilA))))))) (mRet (mC (.bl false))) (mSkip)) (mSeq (mIf (mB (m2 neD (m2 eqD (m2 ixD (mVar 5) (mC (.int 1))) (m2 ixD (mVar 6) (mC (.int 1)))) (m2 eqD (mVar 3) (mVar 4)))) (mRet (mC (.bl false))) (mSkip)) (mSeq (mAsg (mCall m_law_spoiled 2 [] (mConsA (mVar 1) (mConsA (mVar 3) (mNilA)))) (bN 7)) (mSeq (mIf (mB (m2 neD (mCall m_law_told 1 [] (mConsA (mVar 7) (mNilA))) (mLst (mConsA (mC (.str "refused")) (mConsA (mVar 7) (mConsA (mC (.bl true)) (mConsA (mC (.bl false)) (mNilA)))))))) (mRet (mC (.bl false))) (mSkip)) (mRet (m2 eqD (mCall m_law_told 1 [] (mConsA (mVar 3) (mNilA))) (mVar 5))))))))
theorem veq {v u : Vl} {S : So} {n : Nat} : eqB true S (n + 2) v.toD u.toD = some (decide (v = u)) := by
  cases v <;> cases u <;> first
    | rfl
    | (rename_i a b
       show some (true && ((a == b) && true)) = _
       by_cases h : a = b
       · subst h
         simp
       · have : ¬ (a == b) = true := by simpa using h
         simp [h])
theorem k_gives_throws : (("gives" : Str) == ("throws" : Str)) = false := by decide
theorem k_gives_calls : (("gives" : Str) == ("calls" : Str)) = false := by decide
theorem k_gives_asks : (("gives" : Str) == ("asks" : Str)) = false := by decide
theorem k_throws_gives : (("throws" : Str) == ("gives" : Str)) = false := by decide
theorem k_throws_calls : (("throws" : Str) == ("calls" : Str)) = false := by decide
theorem k_throws_asks : (("throws" : Str) == ("asks" : Str)) = false := by decide
theorem k_calls_gives : (("calls" : Str) == ("gives" : Str)) = false := by decide
theorem k_calls_throws : (("calls" : Str) == ("throws" : Str)) = false := by decide
theorem k_calls_asks : (("calls" : Str) == ("asks" : Str)) = false := by decide
theorem k_asks_gives : (("asks" : Str) == ("gives" : Str)) = false := by decide
theorem k_asks_throws : (("asks" : Str) == ("throws" : Str)) = false := by decide
theorem k_asks_calls : (("asks" : Str) == ("calls" : Str)) = false := by decide
section
variable {S : So} {n : Nat} {a b : Str} {i j : Int} {v : Vl}
theorem e_ss : eqB true S (n + 1) (.str a) (.str b) = some (a == b) := rfl
theorem e_ii : eqB true S (n + 1) (.int i) (.int j) = some (i == j) := rfl
theorem e_si : eqB true S (n + 1) (.str a) (.int j) = some false := rfl
theorem e_is : eqB true S (n + 1) (.int i) (.str b) = some false := rfl
theorem e_vi : eqB true S (n + 1) v.toD (.int i) = some false := by cases v <;> rfl
theorem e_iv : eqB true S (n + 1) (.int i) v.toD = some false := by cases v <;> rfl
theorem e_vs : eqB true S (n + 1) v.toD (.str a) = some false := by cases v <;> rfl
theorem e_sv : eqB true S (n + 1) (.str a) v.toD = some false := by cases v <;> rfl
end
theorem eveq {a b : Ev} {S : So} : eqD a.toD b.toD S = .ok (.bl (decide (a = b))) S := by
  have key : eqO S a.toD b.toD = some (decide (a = b)) := by
    cases a <;> cases b <;> simp [Ev.toD, eqO, vw, eqW, eqL, veq (n := 38), e_ss (n := 39), e_ii (n := 39), e_si (n := 39), e_is (n := 39), e_vi (n := 39), e_iv (n := 39), e_vs (n := 39), e_sv (n := 39), k_gives_throws, k_gives_calls, k_gives_asks, k_throws_gives, k_throws_calls, k_throws_asks, k_calls_gives, k_calls_throws, k_calls_asks, k_asks_gives, k_asks_throws, k_asks_calls]
    all_goals rfl
  unfold eqD
  rw [key]
theorem ne_same {a b : Nat} {l : List D} {S : So} (ha : S[a]? = some (.lst l)) (hb : S[b]? = some (.lst l)) (hr : ∀ d ∈ l, Dp 5 d) : neD (.ref a) (.ref b) S = .ok (.bl false) S := by
  have key : neO S (.ref a) (.ref b) = some true := by
    unfold neO vw
    simp only [ha, hb]
    exact eqL_refl fun d hd => eqB_refl 5 40 d (hr d hd) (by decide)
  unfold neD
  rw [key]
  rfl
theorem eq_same {a b : Nat} {l : List D} {S : So} (ha : S[a]? = some (.lst l)) (hb : S[b]? = some (.lst l)) (hr : ∀ d ∈ l, Dp 5 d) : eqD (.ref a) (.ref b) S = .ok (.bl true) S := by
  have key : eqO S (.ref a) (.ref b) = some true := by
    unfold eqO vw
    simp only [ha, hb]
    exact eqL_refl fun d hd => eqB_refl 5 40 d (hr d hd) (by decide)
  unfold eqD
  rw [key]
theorem told_dp {x y : Str} : ∀ d ∈ [D.str x, D.str y], Dp 5 d := all2 dp_str dp_str
theorem not_src {s t n : Nat} {x y : Str} {S : So} (h : St s t S) (hn : S[n]? = some (.lst [.str x, .str y])) : n ≠ s := by
  rintro rfl
  obtain ⟨cs, i, c, d, e, h⟩ := h
  have := h.at_
  rw [hn] at this
  cases this
theorem ap {S T : So} {n : Nat} {o : O} (h : S[n]? = some o) : (S ++ T)[n]? = some o := (List.getElem?_append_left (List.getElem?_eq_some_iff.mp h).1).trans h
theorem tail_eq {e1 e2 : Ev} {S : So} {sc : D} {nr : D} (h : St 2 1 S) (o1 : e1.Ok) (o2 : e2.Ok) : Wp (lawTail [some sc, some (.ref 2), some nr, some e1.toD, some e2.toD, none, none, none] S) (fnK fun r _ => r = .bl true) := by
  unfold lawTail
  walk_at "go"
  refine (told_ok o1).mono ?_
  rintro r S1 ⟨T1, n1, rfl, rfl, w1⟩
  walk_at "go"
  refine (told_ok o2).mono ?_
  rintro r S2 ⟨T2, n2, rfl, rfl, w2⟩
  walk_at "go"
  refine (due_eq o1).mono ?_
  rintro r S3 ⟨⟨T3, rfl⟩, rfl⟩
  walk_at "go"
  have x1 := ap (T := [.lst [.str "told", .str (etext e1)]]) (ap (T := T3) (ap (T := T2) w1))
  refine Wp.op2 (ne_same x1 last_at told_dp) ?_
  walk_at "go"
  refine (due_eq o2).mono ?_
  rintro r S3 ⟨⟨T4, rfl⟩, rfl⟩
  have h5 := St.app (T := T4) (St.app (T := [.lst [.str "told", .str (etext e1)]]) (St.app (T := T3) (St.app (T := T2) (St.app (T := T1) h))))
  have x2 := ap (T := T4) x1
  have y2 := ap (T := T4) (ap (T := [.lst [.str "told", .str (etext e1)]]) (ap (T := T3) w2))
  generalize S ++ T1 ++ T2 ++ T3 ++ [O.lst [D.str "told", D.str (etext e1)]] ++ T4 = S4 at *
  walk_at "go"
  have h6 := St.app (T := [.lst [.str "told", .str (etext e2)]]) h5
  have x3 := ap (T := [.lst [.str "told", .str (etext e2)]]) x2
  have y3 := ap (T := [.lst [.str "told", .str (etext e2)]]) y2
  refine Wp.op2 (ne_same y3 last_at told_dp) ?_
  walk_at "go"
  generalize S4 ++ [O.lst [D.str "told", D.str (etext e2)]] = S5 at *
  refine Wp.op2 eveq ?_
  have hx : (etext e1 == etext e2) = decide (e1 = e2) := by
    by_cases hq : e1 = e2
    · subst hq
      simp
    · have : ¬ etext e1 = etext e2 := fun z => hq (et_inj o1 o2 z)
      simp [hq, this]
  rw [hx]
  walk_at "go"
  refine Wp.bf (by simp) ?_
  walk_at "go"
  refine (spoil o1 h6).mono ?_
  rintro r S6 ⟨h7, g7, lf, eb, dp⟩
  have hn1 := not_src h6 x3
  have x4 : S6[n1]? = some (.lst [.str "told", .str (etext e1)]) := by
    rw [g7.2 n1 (List.getElem?_eq_some_iff.mp x3).1 hn1]
    exact x3
  walk_at "go"
  refine (told_bad lf eb).mono ?_
  rintro r' S7 ⟨T7, n7, rfl, rfl, w7⟩
  walk_at "go"
  refine Wp.op2 (ne_same (ap w7) last_at (all4 dp_str dp dp_bl dp_bl)) ?_
  walk_at "go"
  refine (told_ok o1).mono ?_
  rintro r' S8 ⟨T8, n8, rfl, rfl, w8⟩
  walk_at "go"
  refine Wp.op2 (eq_same w8 (ap (ap (ap x4))) told_dp) ?_
  walk_at "go"
  rfl
theorem law_true (ns : List Int) (h : ns.length ≤ 63) : ∃ S, m_law [.frl (ns.map D.int)] [] = .ok (.bl true) S := by
  have key : Wp (m_law [.frl (ns.map D.int)] []) (fun r _ => r = .bl true) := by
    unfold m_law
    refine Wp.fn ?_
    show Wp (b_law [some (.frl (ns.map D.int)), none, none, none, none, none, none, none] []) _
    unfold b_law
    walk_at "go"
    refine (src_eq h).mono ?_
    rintro r S1 ⟨rfl, h1, l1⟩
    walk_at "go"
    refine (draw (many := 3) h1 (by decide) (by decide)).mono ?_
    rintro r S2 ⟨h2, k2, k, rfl, hk⟩
    walk_at "go"
    refine (event_dr h2).mono ?_
    rintro r S3 ⟨h3, g3, e1, rfl, o1⟩
    walk_at "go"
    refine (event_dr h3).mono ?_
    rintro r S4 ⟨h4, g4, e2, rfl, o2⟩
    refine Wp.nx ?_
    refine Wp.seq ?_
    refine Wp.if_ ?_
    refine Wp.b ?_
    refine Wp.var (by rfl) ?_
    refine Wp.asB ?_
    refine ⟨fun hc => ?_, fun hc => ?_⟩
    · walk_at "go"
      refine (near_dr o1 h4).mono ?_
      rintro r S5 ⟨h5, g5, e3, rfl, o3⟩
      refine Wp.nx ?_
      exact tail_eq h5 o1 o3
    · refine Wp.skip ?_
      refine Wp.nx ?_
      exact tail_eq h4 o1 o2
  obtain ⟨r, S, e, rfl⟩ := key.get
  exact ⟨S, e⟩
end Mkk85
namespace Mkk85
open PySem PySem.Spec PyProof.Rows L2 Mi
theorem all_mk {l : PySem.W.OpenLaw} {w : World} {K : PySem.W.Frag} {h : Heap} {mg : Str → Option Value} {fa a_is_name a_is_count a_is_shown a_is_event a_shown_text a_event_text a_law_mix a_law_source a_law_draw a_law_names a_law_number a_law_value a_law_event a_law_near a_law_due a_law_spoiled a_law_told a_law C_StandError C_BadMove C_BadEvent C_BadText i_BadEvent cda_BadEvent cc_BadEvent : Addr} {oc_is_name kV_is_name dc_is_name pm_is_name cd_is_name ct_is_name : Value} {od_is_name an_is_name : Option Addr} {sl_is_name : Array (Option Value)} {oc_is_count kV_is_count dc_is_count pm_is_count cd_is_count ct_is_count : Value} {od_is_count an_is_count : Option Addr} {sl_is_count : Array (Option Value)} {oc_is_shown kV_is_shown dc_is_shown pm_is_shown cd_is_shown ct_is_shown : Value} {od_is_shown an_is_shown : Option Addr} {sl_is_shown : Array (Option Value)} {oc_is_event kV_is_event dc_is_event pm_is_event cd_is_event ct_is_event : Value} {od_is_event an_is_event : Option Addr} {sl_is_event : Array (Option Value)} {oc_shown_text kV_shown_text dc_shown_text pm_shown_text cd_shown_text ct_shown_text : Value} {od_shown_text an_shown_text : Option Addr} {sl_shown_text : Array (Option Value)} {oc_event_text kV_event_text dc_event_text pm_event_text cd_event_text ct_event_text : Value} {od_event_text an_event_text : Option Addr} {sl_event_text : Array (Option Value)} {oc_law_mix kV_law_mix dc_law_mix pm_law_mix cd_law_mix ct_law_mix : Value} {od_law_mix an_law_mix : Option Addr} {sl_law_mix : Array (Option Value)} {oc_law_source kV_law_source dc_law_source pm_law_source cd_law_source ct_law_source : Value} {od_law_source an_law_source : Option Addr} {sl_law_source : Array (Option Value)} {oc_law_draw kV_law_draw dc_law_draw pm_law_draw cd_law_draw ct_law_draw : Value} {od_law_draw an_law_draw : Option Addr} {sl_law_draw : Array (Option Value)} {oc_law_names kV_law_names dc_law_names pm_law_names cd_law_names ct_law_names : Value} {od_law_names an_law_names : Option Addr} {sl_law_names : Array (Option Value)} {oc_law_number kV_law_number dc_law_number pm_law_number cd_law_number ct_law_number : Value} {od_law_number an_law_number : Option Addr} {sl_law_number : Array (Option Value)} {oc_law_value kV_law_value dc_law_value pm_law_value cd_law_value ct_law_value : Value} {od_law_value an_law_value : Option Addr} {sl_law_value : Array (Option Value)} {oc_law_event kV_law_event dc_law_event pm_law_event cd_law_event ct_law_event : Value} {od_law_event an_law_event : Option Addr} {sl_law_event : Array (Option Value)} {oc_law_near kV_law_near dc_law_near pm_law_near cd_law_near ct_law_near : Value} {od_law_near an_law_near : Option Addr} {sl_law_near : Array (Option Value)} {oc_law_due kV_law_due dc_law_due pm_law_due cd_law_due ct_law_due : Value} {od_law_due an_law_due : Option Addr} {sl_law_due : Array (Option Value)} {oc_law_spoiled kV_law_spoiled dc_law_spoiled pm_law_spoiled cd_law_spoiled ct_law_spoiled : Value} {od_law_spoiled an_law_spoiled : Option Addr} {sl_law_spoiled : Array (Option Value)} {oc_law_told kV_law_told dc_law_told pm_law_told cd_law_told ct_law_told : Value} {od_law_told an_law_told : Option Addr} {sl_law_told : Array (Option Value)} {oc_law kV_law dc_law pm_law cd_law ct_law : Value} {od_law an_law : Option Addr} {sl_law : Array (Option Value)} {tk_LETTERS : Tok} {tk_GREATEST_NUMBER : Tok} {oc_BadEvent kV_BadEvent dc_BadEvent pm_BadEvent ct_BadEvent ccl_BadEvent cll_BadEvent : Value} {od_BadEvent an_BadEvent cdd_BadEvent cld_BadEvent : Option Addr} {sl_BadEvent ccs_BadEvent csl_BadEvent : Array (Option Value)} {vs_BadEvent : Array Value} {file_BadEvent : Str} {tf_BadEvent : Tok} {nm_BadEvent qn_BadEvent : Str} {N_BadEvent : Addr} {bs_BadEvent bm_BadEvent sub_BadEvent : List Value} {sn_BadEvent : List Str} {ab_BadEvent : Bool} {col_BadEvent : Option Bool} {dd_BadEvent : Option Addr} {k0_BadEvent k1o_BadEvent k2o_BadEvent k3_BadEvent k5_BadEvent : Option Value}
    (X : K.In h) (G : h.Ns mainGlobals mg) (hfa : mg "law" = some (.ref fa))
    (n1_is_name : PySem.W.nsIn K mainGlobals "is_name" = some (some (.ref a_is_name)))
    (l_is_name : K.lookup a_is_name = some ⟨oc_is_name, od_is_name, .func (PySem.W.fnOf "is_name" "is_name" (defArgs (top 7)) (defBody (top 7)) (defScope (top 7)) .none kV_is_name dc_is_name pm_is_name an_is_name cd_is_name ct_is_name), sl_is_name⟩)
    (k1_is_name : PySem.W.codeIn K cd_is_name "is_name" = true)
    (k2_is_name : PySem.W.keepIn K (.ref a_is_name) = true)
    (n1_is_count : PySem.W.nsIn K mainGlobals "is_count" = some (some (.ref a_is_count)))
    (l_is_count : K.lookup a_is_count = some ⟨oc_is_count, od_is_count, .func (PySem.W.fnOf "is_count" "is_count" (defArgs (top 10)) (defBody (top 10)) (defScope (top 10)) .none kV_is_count dc_is_count pm_is_count an_is_count cd_is_count ct_is_count), sl_is_count⟩)
    (k1_is_count : PySem.W.codeIn K cd_is_count "is_count" = true)
    (k2_is_count : PySem.W.keepIn K (.ref a_is_count) = true)
    (n1_is_shown : PySem.W.nsIn K mainGlobals "is_shown" = some (some (.ref a_is_shown)))
    (l_is_shown : K.lookup a_is_shown = some ⟨oc_is_shown, od_is_shown, .func (PySem.W.fnOf "is_shown" "is_shown" (defArgs (top 11)) (defBody (top 11)) (defScope (top 11)) .none kV_is_shown dc_is_shown pm_is_shown an_is_shown cd_is_shown ct_is_shown), sl_is_shown⟩)
    (k1_is_shown : PySem.W.codeIn K cd_is_shown "is_shown" = true)
    (k2_is_shown : PySem.W.keepIn K (.ref a_is_shown) = true)
    (n1_is_event : PySem.W.nsIn K mainGlobals "is_event" = some (some (.ref a_is_event)))
    (l_is_event : K.lookup a_is_event = some ⟨oc_is_event, od_is_event, .func (PySem.W.fnOf "is_event" "is_event" (defArgs (top 12)) (defBody (top 12)) (defScope (top 12)) .none kV_is_event dc_is_event pm_is_event an_is_event cd_is_event ct_is_event), sl_is_event⟩)
    (k1_is_event : PySem.W.codeIn K cd_is_event "is_event" = true)
    (k2_is_event : PySem.W.keepIn K (.ref a_is_event) = true)
    (n1_shown_text : PySem.W.nsIn K mainGlobals "shown_text" = some (some (.ref a_shown_text)))
    (l_shown_text : K.lookup a_shown_text = some ⟨oc_shown_text, od_shown_text, .func (PySem.W.fnOf "shown_text" "shown_text" (defArgs (top 14)) (defBody (top 14)) (defScope (top 14)) .none kV_shown_text dc_shown_text pm_shown_text an_shown_text cd_shown_text ct_shown_text), sl_shown_text⟩)
    (k1_shown_text : PySem.W.codeIn K cd_shown_text "shown_text" = true)
    (k2_shown_text : PySem.W.keepIn K (.ref a_shown_text) = true)
    (n1_event_text : PySem.W.nsIn K mainGlobals "event_text" = some (some (.ref a_event_text)))
    (l_event_text : K.lookup a_event_text = some ⟨oc_event_text, od_event_text, .func (PySem.W.fnOf "event_text" "event_text" (defArgs (top 15)) (defBody (top 15)) (defScope (top 15)) .none kV_event_text dc_event_text pm_event_text an_event_text cd_event_text ct_event_text), sl_event_text⟩)
    (k1_event_text : PySem.W.codeIn K cd_event_text "event_text" = true)
    (k2_event_text : PySem.W.keepIn K (.ref a_event_text) = true)
    (n1_law_mix : PySem.W.nsIn K mainGlobals "_law_mix" = some (some (.ref a_law_mix)))
    (l_law_mix : K.lookup a_law_mix = some ⟨oc_law_mix, od_law_mix, .func (PySem.W.fnOf "_law_mix" "_law_mix" (defArgs (top 17)) (defBody (top 17)) (defScope (top 17)) .none kV_law_mix dc_law_mix pm_law_mix an_law_mix cd_law_mix ct_law_mix), sl_law_mix⟩)
    (k1_law_mix : PySem.W.codeIn K cd_law_mix "_law_mix" = true)
    (k2_law_mix : PySem.W.keepIn K (.ref a_law_mix) = true)
    (n1_law_source : PySem.W.nsIn K mainGlobals "_law_source" = some (some (.ref a_law_source)))
    (l_law_source : K.lookup a_law_source = some ⟨oc_law_source, od_law_source, .func (PySem.W.fnOf "_law_source" "_law_source" (defArgs (top 18)) (defBody (top 18)) (defScope (top 18)) .none kV_law_source dc_law_source pm_law_source an_law_source cd_law_source ct_law_source), sl_law_source⟩)
    (k1_law_source : PySem.W.codeIn K cd_law_source "_law_source" = true)
    (k2_law_source : PySem.W.keepIn K (.ref a_law_source) = true)
    (n1_law_draw : PySem.W.nsIn K mainGlobals "_law_draw" = some (some (.ref a_law_draw)))
    (l_law_draw : K.lookup a_law_draw = some ⟨oc_law_draw, od_law_draw, .func (PySem.W.fnOf "_law_draw" "_law_draw" (defArgs (top 19)) (defBody (top 19)) (defScope (top 19)) .none kV_law_draw dc_law_draw pm_law_draw an_law_draw cd_law_draw ct_law_draw), sl_law_draw⟩)
    (k1_law_draw : PySem.W.codeIn K cd_law_draw "_law_draw" = true)
    (k2_law_draw : PySem.W.keepIn K (.ref a_law_draw) = true)
    (n1_law_names : PySem.W.nsIn K mainGlobals "_law_names" = some (some (.ref a_law_names)))
    (l_law_names : K.lookup a_law_names = some ⟨oc_law_names, od_law_names, .func (PySem.W.fnOf "_law_names" "_law_names" (defArgs (top 22)) (defBody (top 22)) (defScope (top 22)) .none kV_law_names dc_law_names pm_law_names an_law_names cd_law_names ct_law_names), sl_law_names⟩)
    (k1_law_names : PySem.W.codeIn K cd_law_names "_law_names" = true)
    (k2_law_names : PySem.W.keepIn K (.ref a_law_names) = true)
    (n1_law_number : PySem.W.nsIn K mainGlobals "_law_number" = some (some (.ref a_law_number)))
    (l_law_number : K.lookup a_law_number = some ⟨oc_law_number, od_law_number, .func (PySem.W.fnOf "_law_number" "_law_number" (defArgs (top 23)) (defBody (top 23)) (defScope (top 23)) .none kV_law_number dc_law_number pm_law_number an_law_number cd_law_number ct_law_number), sl_law_number⟩)
    (k1_law_number : PySem.W.codeIn K cd_law_number "_law_number" = true)
    (k2_law_number : PySem.W.keepIn K (.ref a_law_number) = true)
    (n1_law_value : PySem.W.nsIn K mainGlobals "_law_value" = some (some (.ref a_law_value)))
    (l_law_value : K.lookup a_law_value = some ⟨oc_law_value, od_law_value, .func (PySem.W.fnOf "_law_value" "_law_value" (defArgs (top 24)) (defBody (top 24)) (defScope (top 24)) .none kV_law_value dc_law_value pm_law_value an_law_value cd_law_value ct_law_value), sl_law_value⟩)
    (k1_law_value : PySem.W.codeIn K cd_law_value "_law_value" = true)
    (k2_law_value : PySem.W.keepIn K (.ref a_law_value) = true)
    (n1_law_event : PySem.W.nsIn K mainGlobals "_law_event" = some (some (.ref a_law_event)))
    (l_law_event : K.lookup a_law_event = some ⟨oc_law_event, od_law_event, .func (PySem.W.fnOf "_law_event" "_law_event" (defArgs (top 25)) (defBody (top 25)) (defScope (top 25)) .none kV_law_event dc_law_event pm_law_event an_law_event cd_law_event ct_law_event), sl_law_event⟩)
    (k1_law_event : PySem.W.codeIn K cd_law_event "_law_event" = true)
    (k2_law_event : PySem.W.keepIn K (.ref a_law_event) = true)
    (n1_law_near : PySem.W.nsIn K mainGlobals "_law_near" = some (some (.ref a_law_near)))
    (l_law_near : K.lookup a_law_near = some ⟨oc_law_near, od_law_near, .func (PySem.W.fnOf "_law_near" "_law_near" (defArgs (top 26)) (defBody (top 26)) (defScope (top 26)) .none kV_law_near dc_law_near pm_law_near an_law_near cd_law_near ct_law_near), sl_law_near⟩)
    (k1_law_near : PySem.W.codeIn K cd_law_near "_law_near" = true)
    (k2_law_near : PySem.W.keepIn K (.ref a_law_near) = true)
    (n1_law_due : PySem.W.nsIn K mainGlobals "_law_due" = some (some (.ref a_law_due)))
    (l_law_due : K.lookup a_law_due = some ⟨oc_law_due, od_law_due, .func (PySem.W.fnOf "_law_due" "_law_due" (defArgs (top 27)) (defBody (top 27)) (defScope (top 27)) .none kV_law_due dc_law_due pm_law_due an_law_due cd_law_due ct_law_due), sl_law_due⟩)
    (k1_law_due : PySem.W.codeIn K cd_law_due "_law_due" = true)
    (k2_law_due : PySem.W.keepIn K (.ref a_law_due) = true)
    (n1_law_spoiled : PySem.W.nsIn K mainGlobals "_law_spoiled" = some (some (.ref a_law_spoiled)))
    (l_law_spoiled : K.lookup a_law_spoiled = some ⟨oc_law_spoiled, od_law_spoiled, .func (PySem.W.fnOf "_law_spoiled" "_law_spoiled" (defArgs (top 28)) (defBody (top 28)) (defScope (top 28)) .none kV_law_spoiled dc_law_spoiled pm_law_spoiled an_law_spoiled cd_law_spoiled ct_law_spoiled), sl_law_spoiled⟩)
    (k1_law_spoiled : PySem.W.codeIn K cd_law_spoiled "_law_spoiled" = true)
    (k2_law_spoiled : PySem.W.keepIn K (.ref a_law_spoiled) = true)
    (n1_law_told : PySem.W.nsIn K mainGlobals "_law_told" = some (some (.ref a_law_told)))
    (l_law_told : K.lookup a_law_told = some ⟨oc_law_told, od_law_told, .func (PySem.W.fnOf "_law_told" "_law_told" (defArgs (top 29)) (defBody (top 29)) (defScope (top 29)) .none kV_law_told dc_law_told pm_law_told an_law_told cd_law_told ct_law_told), sl_law_told⟩)
    (k1_law_told : PySem.W.codeIn K cd_law_told "_law_told" = true)
    (k2_law_told : PySem.W.keepIn K (.ref a_law_told) = true)
    (n1_law : PySem.W.nsIn K mainGlobals "law" = some (some (.ref a_law)))
    (l_law : K.lookup a_law = some ⟨oc_law, od_law, .func (PySem.W.fnOf "law" "law" (defArgs (top 30)) (defBody (top 30)) (defScope (top 30)) .none kV_law dc_law pm_law an_law cd_law ct_law), sl_law⟩)
    (k1_law : PySem.W.codeIn K cd_law "law" = true)
    (k2_law : PySem.W.keepIn K (.ref a_law) = true)
    (n_ValueError : PySem.W.nsIn K mainGlobals "ValueError" = some none)
    (n_bool : PySem.W.nsIn K mainGlobals "bool" = some none)
    (n_int : PySem.W.nsIn K mainGlobals "int" = some none)
    (n_isinstance : PySem.W.nsIn K mainGlobals "isinstance" = some none)
    (n_len : PySem.W.nsIn K mainGlobals "len" = some none)
    (n_list : PySem.W.nsIn K mainGlobals "list" = some none)
    (n_range : PySem.W.nsIn K mainGlobals "range" = some none)
    (n_str : PySem.W.nsIn K mainGlobals "str" = some none)
    (n_tuple : PySem.W.nsIn K mainGlobals "tuple" = some none)
    (c_LETTERS : PySem.W.nsIn K mainGlobals "LETTERS" = some (some (.str "abcdefghijklmnopqrstuvwxyz" tk_LETTERS)))
    (c_GREATEST_NUMBER : PySem.W.nsIn K mainGlobals "GREATEST_NUMBER" = some (some (.int 999999 tk_GREATEST_NUMBER)))
    (n1_StandError : PySem.W.nsIn K mainGlobals "StandError" = some (some (.ref C_StandError)))
    (n1_BadMove : PySem.W.nsIn K mainGlobals "BadMove" = some (some (.ref C_BadMove)))
    (n1_BadEvent : PySem.W.nsIn K mainGlobals "BadEvent" = some (some (.ref C_BadEvent)))
    (n1_BadText : PySem.W.nsIn K mainGlobals "BadText" = some (some (.ref C_BadText)))
    (sup : PySem.W.nsIn K mainGlobals "super" = some none)
    (opq : PySem.W.nsIn K PySem.cStatics "thirdparty.any" = some none)
    (stop : (l.prog.main.scope.names.lookup ("super" : Str)).isSome = false)
    (sp : PySem.W.specialIn K (.builtin "object.__class__") "__get__" = some (some (.builtin "getset_descriptor.__get__")))
    (tk : PySem.W.takesIn K (.builtin "object.__class__") = some true)
    (in_BadEvent : PySem.W.findIn K (.ref C_BadEvent) "__init__" = some (some (.ref i_BadEvent)))
    (l_BadEvent : K.lookup i_BadEvent = some ⟨oc_BadEvent, od_BadEvent, .func (PySem.W.fnX "__init__" "BadEvent.__init__" (defArgs (inClass (top 3) 0)) (defBody (inClass (top 3) 0)) (defScope (inClass (top 3) 0)) [("__class__", cc_BadEvent)] .none kV_BadEvent dc_BadEvent pm_BadEvent an_BadEvent (.ref cda_BadEvent) ct_BadEvent), sl_BadEvent⟩)
    (k1_BadEvent : PySem.W.codeIn K (.ref cda_BadEvent) "BadEvent.__init__" = true)
    (l2_BadEvent : K.lookup cda_BadEvent = some ⟨ccl_BadEvent, cdd_BadEvent, .fields vs_BadEvent, ccs_BadEvent⟩)
    (hv_BadEvent : vs_BadEvent[2]? = some (.str file_BadEvent tf_BadEvent))
    (hf_BadEvent : ((l.prog.main.file : Str) == file_BadEvent) = true)
    (l3_BadEvent : K.lookup cc_BadEvent = some ⟨cll_BadEvent, cld_BadEvent, .cell (some (.ref C_BadEvent)), csl_BadEvent⟩)
    (ow_BadEvent : PySem.W.mroIn K C_BadEvent (.ref C_BadEvent) = some true)
    (va_BadEvent : PySem.W.subIn K (.ref C_BadEvent) (.type "ValueError") = some true)
    (ini_BadEvent : PySem.W.ks_superIn K C_BadEvent C_BadEvent "__init__" = some (some (.builtin "ValueError.__init__")))
    (lc_BadEvent : K.lookup C_BadEvent = some (excClassObj nm_BadEvent qn_BadEvent C_BadEvent N_BadEvent bs_BadEvent bm_BadEvent true sn_BadEvent sub_BadEvent ab_BadEvent col_BadEvent dd_BadEvent k0_BadEvent k1o_BadEvent k2o_BadEvent k3_BadEvent k5_BadEvent "ValueError.__new__"))
    (bm_BadEvent : PySem.HandSPX.refsVE bm_BadEvent = true)
    (sa_BadEvent : PySem.W.findIn K (.ref C_BadEvent) "__setattr__" = some (some (.builtin "object.__setattr__")))
    (ex_BadEvent : PySem.W.subIn K (.ref C_BadEvent) (.type "BaseException") = some true)
    (tc_BadEvent : PySem.W.typeIn K (.ref C_BadEvent) = some (.type "type"))
    (kc_BadEvent : PySem.W.keepIn K (.ref C_BadEvent) = true)
    (ti_BadEvent : PySem.W.typeIn K (.ref i_BadEvent) = some (.type "function"))
    (no_BadEvent : PySem.W.findIn K (.ref C_BadEvent) "event" = some none)
    (hd_BadEvent : PySem.W.hasDictIn K C_BadEvent = true)
    (ga_BadEvent : PySem.W.findIn K (.ref C_BadEvent) "__getattribute__" = some (some (.builtin "BaseException.__getattribute__")))
    (gt_BadEvent : PySem.W.findIn K (.ref C_BadEvent) "__getattr__" = some none)
    (ca_BadEvent : PySem.W.findIn K (.ref C_BadEvent) "__class__" = some (some (.builtin "object.__class__")))
    (ob_BadEvent : PySem.W.mroIn K C_BadEvent (.type "object") = some true)
    (sb_BadEvent_BadEvent : PySem.W.subIn K (.ref C_BadEvent) (.ref C_BadEvent) = some true)
    (eq_BadEvent_BadEvent : C_BadEvent = C_BadEvent → true = true)
    (ex_BadMove : PySem.W.subIn K (.ref C_BadMove) (.type "BaseException") = some true)
    (hd_BadMove : PySem.W.hasDictIn K C_BadMove = true)
    (tc_BadMove : PySem.W.typeIn K (.ref C_BadMove) = some (.type "type"))
    (sb_BadEvent_BadMove : PySem.W.subIn K (.ref C_BadEvent) (.ref C_BadMove) = some false)
    (eq_BadEvent_BadMove : C_BadEvent = C_BadMove → false = true)
    (ex_BadText : PySem.W.subIn K (.ref C_BadText) (.type "BaseException") = some true)
    (hd_BadText : PySem.W.hasDictIn K C_BadText = true)
    (tc_BadText : PySem.W.typeIn K (.ref C_BadText) = some (.type "type"))
    (sb_BadEvent_BadText : PySem.W.subIn K (.ref C_BadEvent) (.ref C_BadText) = some false)
    (eq_BadEvent_BadText : C_BadEvent = C_BadText → false = true)
    (ex_StandError : PySem.W.subIn K (.ref C_StandError) (.type "BaseException") = some true)
    (hd_StandError : PySem.W.hasDictIn K C_StandError = true)
    (tc_StandError : PySem.W.typeIn K (.ref C_StandError) = some (.type "type"))
    (sb_BadEvent_StandError : PySem.W.subIn K (.ref C_BadEvent) (.ref C_StandError) = some true)
    (eq_BadEvent_StandError : C_BadEvent = C_StandError → true = true)
    (sb_BadEvent_ValueError : PySem.W.subIn K (.ref C_BadEvent) (.type "ValueError") = some true) :
    ∃ fd : FuncData, (∀ (s : Shared) (v : Value), BindsTo s fd ⟨[v], []⟩ [("_law_script", v)]) ∧ ∀ base : Heap, K.In base → base.Ns mainGlobals mg → FnOk l.prog w K mg base (L2.CX l.prog w) 7 fa fd ["_law_script"] (spLaw 63 K) := by
  have e := (PySem.W.mg_of X G n1_law).symm.trans hfa
  cases e
  have T : Tx l.prog K mg ⟨a_is_name, (PySem.W.fnOf "is_name" "is_name" (defArgs (top 7)) (defBody (top 7)) (defScope (top 7)) .none kV_is_name dc_is_name pm_is_name an_is_name cd_is_name ct_is_name), a_is_count, (PySem.W.fnOf "is_count" "is_count" (defArgs (top 10)) (defBody (top 10)) (defScope (top 10)) .none kV_is_count dc_is_count pm_is_count an_is_count cd_is_count ct_is_count), a_is_shown, (PySem.W.fnOf "is_shown" "is_shown" (defArgs (top 11)) (defBody (top 11)) (defScope (top 11)) .none kV_is_shown dc_is_shown pm_is_shown an_is_shown cd_is_shown ct_is_shown), a_is_event, (PySem.W.fnOf "is_event" "is_event" (defArgs (top 12)) (defBody (top 12)) (defScope (top 12)) .none kV_is_event dc_is_event pm_is_event an_is_event cd_is_event ct_is_event), a_shown_text, (PySem.W.fnOf "shown_text" "shown_text" (defArgs (top 14)) (defBody (top 14)) (defScope (top 14)) .none kV_shown_text dc_shown_text pm_shown_text an_shown_text cd_shown_text ct_shown_text), a_event_text, (PySem.W.fnOf "event_text" "event_text" (defArgs (top 15)) (defBody (top 15)) (defScope (top 15)) .none kV_event_text dc_event_text pm_event_text an_event_text cd_event_text ct_event_text), a_law_mix, (PySem.W.fnOf "_law_mix" "_law_mix" (defArgs (top 17)) (defBody (top 17)) (defScope (top 17)) .none kV_law_mix dc_law_mix pm_law_mix an_law_mix cd_law_mix ct_law_mix), a_law_source, (PySem.W.fnOf "_law_source" "_law_source" (defArgs (top 18)) (defBody (top 18)) (defScope (top 18)) .none kV_law_source dc_law_source pm_law_source an_law_source cd_law_source ct_law_source), a_law_draw, (PySem.W.fnOf "_law_draw" "_law_draw" (defArgs (top 19)) (defBody (top 19)) (defScope (top 19)) .none kV_law_draw dc_law_draw pm_law_draw an_law_draw cd_law_draw ct_law_draw), a_law_names, (PySem.W.fnOf "_law_names" "_law_names" (defArgs (top 22)) (defBody (top 22)) (defScope (top 22)) .none kV_law_names dc_law_names pm_law_names an_law_names cd_law_names ct_law_names), a_law_number, (PySem.W.fnOf "_law_number" "_law_number" (defArgs (top 23)) (defBody (top 23)) (defScope (top 23)) .none kV_law_number dc_law_number pm_law_number an_law_number cd_law_number ct_law_number), a_law_value, (PySem.W.fnOf "_law_value" "_law_value" (defArgs (top 24)) (defBody (top 24)) (defScope (top 24)) .none kV_law_value dc_law_value pm_law_value an_law_value cd_law_value ct_law_value), a_law_event, (PySem.W.fnOf "_law_event" "_law_event" (defArgs (top 25)) (defBody (top 25)) (defScope (top 25)) .none kV_law_event dc_law_event pm_law_event an_law_event cd_law_event ct_law_event), a_law_near, (PySem.W.fnOf "_law_near" "_law_near" (defArgs (top 26)) (defBody (top 26)) (defScope (top 26)) .none kV_law_near dc_law_near pm_law_near an_law_near cd_law_near ct_law_near), a_law_due, (PySem.W.fnOf "_law_due" "_law_due" (defArgs (top 27)) (defBody (top 27)) (defScope (top 27)) .none kV_law_due dc_law_due pm_law_due an_law_due cd_law_due ct_law_due), a_law_spoiled, (PySem.W.fnOf "_law_spoiled" "_law_spoiled" (defArgs (top 28)) (defBody (top 28)) (defScope (top 28)) .none kV_law_spoiled dc_law_spoiled pm_law_spoiled an_law_spoiled cd_law_spoiled ct_law_spoiled), a_law_told, (PySem.W.fnOf "_law_told" "_law_told" (defArgs (top 29)) (defBody (top 29)) (defScope (top 29)) .none kV_law_told dc_law_told pm_law_told an_law_told cd_law_told ct_law_told), fa, (PySem.W.fnOf "law" "law" (defArgs (top 30)) (defBody (top 30)) (defScope (top 30)) .none kV_law dc_law pm_law an_law cd_law ct_law), C_StandError, C_BadMove, C_BadEvent, C_BadText, i_BadEvent, (PySem.W.fnX "__init__" "BadEvent.__init__" (defArgs (inClass (top 3) 0)) (defBody (inClass (top 3) 0)) (defScope (inClass (top 3) 0)) [("__class__", cc_BadEvent)] .none kV_BadEvent dc_BadEvent pm_BadEvent an_BadEvent (.ref cda_BadEvent) ct_BadEvent)⟩ := {
    f_is_name := fun_mk l_is_name k1_is_name k2_is_name
    g_is_name := PySem.W.mg_of X G n1_is_name
    b_is_name := (fun_mk (st := top 7) l_is_name k1_is_name k2_is_name).binds (ps := ["thing"]) fun _ _ _ _ _ _ us hl => match us, hl with | [_], _ => rfl
    f_is_count := fun_mk l_is_count k1_is_count k2_is_count
    g_is_count := PySem.W.mg_of X G n1_is_count
    b_is_count := (fun_mk (st := top 10) l_is_count k1_is_count k2_is_count).binds (ps := ["thing"]) fun _ _ _ _ _ _ us hl => match us, hl with | [_], _ => rfl
    f_is_shown := fun_mk l_is_shown k1_is_shown k2_is_shown
    g_is_shown := PySem.W.mg_of X G n1_is_shown
    b_is_shown := (fun_mk (st := top 11) l_is_shown k1_is_shown k2_is_shown).binds (ps := ["thing"]) fun _ _ _ _ _ _ us hl => match us, hl with | [_], _ => rfl
    f_is_event := fun_mk l_is_event k1_is_event k2_is_event
    g_is_event := PySem.W.mg_of X G n1_is_event
    b_is_event := (fun_mk (st := top 12) l_is_event k1_is_event k2_is_event).binds (ps := ["thing"]) fun _ _ _ _ _ _ us hl => match us, hl with | [_], _ => rfl
    f_shown_text := fun_mk l_shown_text k1_shown_text k2_shown_text
    g_shown_text := PySem.W.mg_of X G n1_shown_text
    b_shown_text := (fun_mk (st := top 14) l_shown_text k1_shown_text k2_shown_text).binds (ps := ["value"]) fun _ _ _ _ _ _ us hl => match us, hl with | [_], _ => rfl
    f_event_text := fun_mk l_event_text k1_event_text k2_event_text
    g_event_text := PySem.W.mg_of X G n1_event_text
    b_event_text := (fun_mk (st := top 15) l_event_text k1_event_text k2_event_text).binds (ps := ["event"]) fun _ _ _ _ _ _ us hl => match us, hl with | [_], _ => rfl
    f_law_mix := fun_mk l_law_mix k1_law_mix k2_law_mix
    g_law_mix := PySem.W.mg_of X G n1_law_mix
    b_law_mix := (fun_mk (st := top 17) l_law_mix k1_law_mix k2_law_mix).binds (ps := ["_law_number_here", "_law_k"]) fun _ _ _ _ _ _ us hl => match us, hl with | [_, _], _ => rfl
    f_law_source := fun_mk l_law_source k1_law_source k2_law_source
    g_law_source := PySem.W.mg_of X G n1_law_source
    b_law_source := (fun_mk (st := top 18) l_law_source k1_law_source k2_law_source).binds (ps := ["_law_script"]) fun _ _ _ _ _ _ us hl => match us, hl with | [_], _ => rfl
    f_law_draw := fun_mk l_law_draw k1_law_draw k2_law_draw
    g_law_draw := PySem.W.mg_of X G n1_law_draw
    b_law_draw := (fun_mk (st := top 19) l_law_draw k1_law_draw k2_law_draw).binds (ps := ["_law_source_here", "_law_many"]) fun _ _ _ _ _ _ us hl => match us, hl with | [_, _], _ => rfl
    f_law_names := fun_mk l_law_names k1_law_names k2_law_names
    g_law_names := PySem.W.mg_of X G n1_law_names
    b_law_names := (fun_mk (st := top 22) l_law_names k1_law_names k2_law_names).binds (ps := ["_law_source_here", "_law_many"]) fun _ _ _ _ _ _ us hl => match us, hl with | [_, _], _ => rfl
    f_law_number := fun_mk l_law_number k1_law_number k2_law_number
    g_law_number := PySem.W.mg_of X G n1_law_number
    b_law_number := (fun_mk (st := top 23) l_law_number k1_law_number k2_law_number).binds (ps := ["_law_source_here"]) fun _ _ _ _ _ _ us hl => match us, hl with | [_], _ => rfl
    f_law_value := fun_mk l_law_value k1_law_value k2_law_value
    g_law_value := PySem.W.mg_of X G n1_law_value
    b_law_value := (fun_mk (st := top 24) l_law_value k1_law_value k2_law_value).binds (ps := ["_law_source_here"]) fun _ _ _ _ _ _ us hl => match us, hl with | [_], _ => rfl
    f_law_event := fun_mk l_law_event k1_law_event k2_law_event
    g_law_event := PySem.W.mg_of X G n1_law_event
    b_law_event := (fun_mk (st := top 25) l_law_event k1_law_event k2_law_event).binds (ps := ["_law_source_here"]) fun _ _ _ _ _ _ us hl => match us, hl with | [_], _ => rfl
    f_law_near := fun_mk l_law_near k1_law_near k2_law_near
    g_law_near := PySem.W.mg_of X G n1_law_near
    b_law_near := (fun_mk (st := top 26) l_law_near k1_law_near k2_law_near).binds (ps := ["_law_source_here", "_law_event_here"]) fun _ _ _ _ _ _ us hl => match us, hl with | [_, _], _ => rfl
    f_law_due := fun_mk l_law_due k1_law_due k2_law_due
    g_law_due := PySem.W.mg_of X G n1_law_due
    b_law_due := (fun_mk (st := top 27) l_law_due k1_law_due k2_law_due).binds (ps := ["_law_event_here"]) fun _ _ _ _ _ _ us hl => match us, hl with | [_], _ => rfl
    f_law_spoiled := fun_mk l_law_spoiled k1_law_spoiled k2_law_spoiled
    g_law_spoiled := PySem.W.mg_of X G n1_law_spoiled
    b_law_spoiled := (fun_mk (st := top 28) l_law_spoiled k1_law_spoiled k2_law_spoiled).binds (ps := ["_law_source_here", "_law_event_here"]) fun _ _ _ _ _ _ us hl => match us, hl with | [_, _], _ => rfl
    f_law_told := fun_mk l_law_told k1_law_told k2_law_told
    g_law_told := PySem.W.mg_of X G n1_law_told
    b_law_told := (fun_mk (st := top 29) l_law_told k1_law_told k2_law_told).binds (ps := ["_law_event_here"]) fun _ _ _ _ _ _ us hl => match us, hl with | [_], _ => rfl
    f_law := fun_mk l_law k1_law k2_law
    g_law := PySem.W.mg_of X G n1_law
    b_law := (fun_mk (st := top 30) l_law k1_law k2_law).binds (ps := ["_law_script"]) fun _ _ _ _ _ _ us hl => match us, hl with | [_], _ => rfl
    n_ValueError := PySem.W.mg_none_of X G n_ValueError
    n_bool := PySem.W.mg_none_of X G n_bool
    n_int := PySem.W.mg_none_of X G n_int
    n_isinstance := PySem.W.mg_none_of X G n_isinstance
    n_len := PySem.W.mg_none_of X G n_len
    n_list := PySem.W.mg_none_of X G n_list
    n_range := PySem.W.mg_none_of X G n_range
    n_str := PySem.W.mg_none_of X G n_str
    n_tuple := PySem.W.mg_none_of X G n_tuple
    c_LETTERS := ⟨_, PySem.W.mg_of X G c_LETTERS, _, rfl⟩
    c_GREATEST_NUMBER := ⟨_, PySem.W.mg_of X G c_GREATEST_NUMBER, _, rfl⟩
    g_StandError := PySem.W.mg_of X G n1_StandError
    g_BadMove := PySem.W.mg_of X G n1_BadMove
    g_BadEvent := PySem.W.mg_of X G n1_BadEvent
    g_BadText := PySem.W.mg_of X G n1_BadText
    su_BadEvent := sup_mk l_BadEvent k1_BadEvent l2_BadEvent hv_BadEvent hf_BadEvent l3_BadEvent stop (PySem.W.mg_none_of X G sup) opq ow_BadEvent va_BadEvent ini_BadEvent
    ox_BadEvent := oex_mk lc_BadEvent bm_BadEvent sa_BadEvent ex_BadEvent tc_BadEvent kc_BadEvent
    in_BadEvent := in_BadEvent
    ty_BadEvent := ti_BadEvent
    be_BadEvent := .all fun us hl => match us, hl with | [_, _], _ => rfl
    no_BadEvent := no_BadEvent
    xf_BadEvent := (ek_mk hd_BadEvent ga_BadEvent gt_BadEvent ex_BadEvent ca_BadEvent sp tk ob_BadEvent).2
    ek_BadEvent := (ek_mk hd_BadEvent ga_BadEvent gt_BadEvent ex_BadEvent ca_BadEvent sp tk ob_BadEvent).1
    ct_BadEvent_BadEvent := ct_mk ex_BadEvent hd_BadEvent tc_BadEvent sb_BadEvent_BadEvent
    ki_BadEvent_BadMove := ki_mk hd_BadMove tc_BadMove sb_BadEvent_BadMove eq_BadEvent_BadMove
    ki_BadEvent_BadText := ki_mk hd_BadText tc_BadText sb_BadEvent_BadText eq_BadEvent_BadText
    ki_BadEvent_StandError := ki_mk hd_StandError tc_StandError sb_BadEvent_StandError eq_BadEvent_StandError
    ki_BadEvent_ValueError := kt_mk (by decide +kernel) sb_BadEvent_ValueError
  }
  exact ⟨(PySem.W.fnOf "law" "law" (defArgs (top 30)) (defBody (top 30)) (defScope (top 30)) .none kV_law dc_law pm_law an_law cd_law ct_law), fun s v => .of_eq rfl, fun base _ _ => (w_law (base := base) T).imp (law_sp fun ns h => law_true ns h)⟩
end Mkk85
open PySem PySem.W PyProof.Rows
set_option maxRecDepth 100000 in
set_option maxHeartbeats 0 in
theorem PySem.Challenge.cw_standsfor_k85_texts_of_events_holds : PySem.Challenge.rw_standsfor_k85_texts_of_events.Holds := by
  w_on; o_law; k_head; (case hw => w_witness2)
  k_fill
  refine Mi.law_walk (l := PySem.Challenge.rw_standsfor_k85_texts_of_events) (k := 7) (x := "_law_script") rfl rfl ⟨rfl, by decide, by decide⟩ (fun w h Y => PySem.W.kIn_of Y) ?F
  case F =>
    intro w mg fa h KX G hmg
    refine' Mkk85.all_mk KX G hmg ?n1_is_name ?l_is_name ?k1_is_name ?k2_is_name ?n1_is_count ?l_is_count ?k1_is_count ?k2_is_count ?n1_is_shown ?l_is_shown ?k1_is_shown ?k2_is_shown ?n1_is_event ?l_is_event ?k1_is_event ?k2_is_event ?n1_shown_text ?l_shown_text ?k1_shown_text ?k2_shown_text ?n1_event_text ?l_event_text ?k1_event_text ?k2_event_text ?n1_law_mix ?l_law_mix ?k1_law_mix ?k2_law_mix ?n1_law_source ?l_law_source ?k1_law_source ?k2_law_source ?n1_law_draw ?l_law_draw ?k1_law_draw ?k2_law_draw ?n1_law_names ?l_law_names ?k1_law_names ?k2_law_names ?n1_law_number ?l_law_number ?k1_law_number ?k2_law_number ?n1_law_value ?l_law_value ?k1_law_value ?k2_law_value ?n1_law_event ?l_law_event ?k1_law_event ?k2_law_event ?n1_law_near ?l_law_near ?k1_law_near ?k2_law_near ?n1_law_due ?l_law_due ?k1_law_due ?k2_law_due ?n1_law_spoiled ?l_law_spoiled ?k1_law_spoiled ?k2_law_spoiled ?n1_law_told ?l_law_told ?k1_law_told ?k2_law_told ?n1_law ?l_law ?k1_law ?k2_law ?n_ValueError ?n_bool ?n_int ?n_isinstance ?n_len ?n_list ?n_range ?n_str ?n_tuple ?c_LETTERS ?c_GREATEST_NUMBER ?n1_StandError ?n1_BadMove ?n1_BadEvent ?n1_BadText ?sup ?opq ?stop ?sp ?tk ?in_BadEvent ?l_BadEvent ?k1_BadEvent ?l2_BadEvent ?hv_BadEvent ?hf_BadEvent ?l3_BadEvent ?ow_BadEvent ?va_BadEvent ?ini_BadEvent ?lc_BadEvent ?bm_BadEvent ?sa_BadEvent ?ex_BadEvent ?tc_BadEvent ?kc_BadEvent ?ti_BadEvent ?no_BadEvent ?hd_BadEvent ?ga_BadEvent ?gt_BadEvent ?ca_BadEvent ?ob_BadEvent ?sb_BadEvent_BadEvent ?eq_BadEvent_BadEvent ?ex_BadMove ?hd_BadMove ?tc_BadMove ?sb_BadEvent_BadMove ?eq_BadEvent_BadMove ?ex_BadText ?hd_BadText ?tc_BadText ?sb_BadEvent_BadText ?eq_BadEvent_BadText ?ex_StandError ?hd_StandError ?tc_StandError ?sb_BadEvent_StandError ?eq_BadEvent_StandError ?sb_BadEvent_ValueError
    case n1_is_name => k_is
    case l_is_name => k_is
    case k1_is_name => k_is
    case k2_is_name => k_is
    case n1_is_count => k_is
    case l_is_count => k_is
    case k1_is_count => k_is
    case k2_is_count => k_is
    case n1_is_shown => k_is
    case l_is_shown => k_is
    case k1_is_shown => k_is
    case k2_is_shown => k_is
    case n1_is_event => k_is
    case l_is_event => k_is
    case k1_is_event => k_is
    case k2_is_event => k_is
    case n1_shown_text => k_is
    case l_shown_text => k_is
    case k1_shown_text => k_is
    case k2_shown_text => k_is
    case n1_event_text => k_is
    case l_event_text => k_is
    case k1_event_text => k_is
    case k2_event_text => k_is
    case n1_law_mix => k_is
    case l_law_mix => k_is
    case k1_law_mix => k_is
    case k2_law_mix => k_is
    case n1_law_source => k_is
    case l_law_source => k_is
    case k1_law_source => k_is
    case k2_law_source => k_is
    case n1_law_draw => k_is
    case l_law_draw => k_is
    case k1_law_draw => k_is
    case k2_law_draw => k_is
    case n1_law_names => k_is
    case l_law_names => k_is
    case k1_law_names => k_is
    case k2_law_names => k_is
    case n1_law_number => k_is
    case l_law_number => k_is
    case k1_law_number => k_is
    case k2_law_number => k_is
    case n1_law_value => k_is
    case l_law_value => k_is
    case k1_law_value => k_is
    case k2_law_value => k_is
    case n1_law_event => k_is
    case l_law_event => k_is
    case k1_law_event => k_is
    case k2_law_event => k_is
    case n1_law_near => k_is
    case l_law_near => k_is
    case k1_law_near => k_is
    case k2_law_near => k_is
    case n1_law_due => k_is
    case l_law_due => k_is
    case k1_law_due => k_is
    case k2_law_due => k_is
    case n1_law_spoiled => k_is
    case l_law_spoiled => k_is
    case k1_law_spoiled => k_is
    case k2_law_spoiled => k_is
    case n1_law_told => k_is
    case l_law_told => k_is
    case k1_law_told => k_is
    case k2_law_told => k_is
    case n1_law => k_is
    case l_law => k_is
    case k1_law => k_is
    case k2_law => k_is
    case n_ValueError => k_is
    case n_bool => k_is
    case n_int => k_is
    case n_isinstance => k_is
    case n_len => k_is
    case n_list => k_is
    case n_range => k_is
    case n_str => k_is
    case n_tuple => k_is
    case c_LETTERS => k_is
    case c_GREATEST_NUMBER => k_is
    case n1_StandError => k_is
    case n1_BadMove => k_is
    case n1_BadEvent => k_is
    case n1_BadText => k_is
    case sup => k_is
    case opq => k_is
    case stop => first | rfl | decide +kernel
    case sp => k_is
    case tk => k_is
    case in_BadEvent => k_is
    case l_BadEvent => k_is
    case k1_BadEvent => k_is
    case l2_BadEvent => k_is
    case hv_BadEvent => rfl
    case hf_BadEvent => first | rfl | decide +kernel
    case l3_BadEvent => k_is
    case ow_BadEvent => k_is
    case va_BadEvent => k_is
    case ini_BadEvent => ks_is
    case lc_BadEvent => k_is
    case bm_BadEvent => first | rfl | decide +kernel
    case sa_BadEvent => k_is
    case ex_BadEvent => k_is
    case tc_BadEvent => k_is
    case kc_BadEvent => k_is
    case ti_BadEvent => k_is
    case no_BadEvent => k_is
    case hd_BadEvent => k_is
    case ga_BadEvent => k_is
    case gt_BadEvent => k_is
    case ca_BadEvent => k_is
    case ob_BadEvent => k_is
    case sb_BadEvent_BadEvent => k_is
    case eq_BadEvent_BadEvent => first | exact fun _ => rfl | exact fun h => absurd h (by decide)
    case ex_BadMove => k_is
    case hd_BadMove => k_is
    case tc_BadMove => k_is
    case sb_BadEvent_BadMove => k_is
    case eq_BadEvent_BadMove => first | exact fun _ => rfl | exact fun h => absurd h (by decide)
    case ex_BadText => k_is
    case hd_BadText => k_is
    case tc_BadText => k_is
    case sb_BadEvent_BadText => k_is
    case eq_BadEvent_BadText => first | exact fun _ => rfl | exact fun h => absurd h (by decide)
    case ex_StandError => k_is
    case hd_StandError => k_is
    case tc_StandError => k_is
    case sb_BadEvent_StandError => k_is
    case eq_BadEvent_StandError => first | exact fun _ => rfl | exact fun h => absurd h (by decide)
    case sb_BadEvent_ValueError => k_is
